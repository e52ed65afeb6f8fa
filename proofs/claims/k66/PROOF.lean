import PyProof.Rows.All
import Wide.All
import OpenK.AllK
import Wide.FinOn
import KE.KStateDown
import Lean
import HandS.Head0
import HandS.Head1
import HandS.Head2
import HandS.HeadEnd
import HandS.HeadHook1
import HandS.HeadHook2
import PySem.Challenge.RW_backlinks_k66_logs_and_chains_written
import HandS.ForMost
import HandS.Exc
import HandS.TryOnly
import HandS.ExcOwn
import HandS.WordsExc
import HandS.Wide
import HandS.Style
import HandS.CallSlots
import HandS.OwnEq
import HandS.Comp
import HandS.IsInst
import HandS.Text
import PyProof.ReprRoads
import HandS.HeadNt
import KE.KIntText
set_option Elab.async false
set_option linter.all false
set_option maxRecDepth 100000
set_option maxHeartbeats 4000000
/-! L3A: data, slots, the relation between an environment of data and the abstract heap. -/
namespace L3
open PySem L2

/-! ### data that stand in a heap -/
mutual
inductive Rp (H : Hp) : V → PyData → Prop
  | non : Rp H .non .none
  | bl (b : Bool) : Rp H (.bl b) (.bool b)
  | int (i : Int) : Rp H (.int i) (.int i)
  | str (x : Str) : Rp H (.str x) (.str x)
  | lst {a : Addr} {vs : List V} {ds : List PyData} : H a = some (.lst vs) → RpAll H vs ds → Rp H (.ref a) (.list ds)
  | tup {a : Addr} {vs : List V} {ds : List PyData} : H a = some (.tup vs) → RpAll H vs ds → Rp H (.ref a) (.tuple ds)
  | dct {a : Addr} {ws : List (Key × V)} {kvs : List (PyData × PyData)} : H a = some (.dK ws) → RpKV H ws kvs → Rp H (.ref a) (.dict kvs)
inductive RpAll (H : Hp) : List V → List PyData → Prop
  | nil : RpAll H [] []
  | cons {v : V} {vs : List V} {d : PyData} {ds : List PyData} : Rp H v d → RpAll H vs ds → RpAll H (v :: vs) (d :: ds)
inductive RpKV (H : Hp) : List (Key × V) → List (PyData × PyData) → Prop
  | nil : RpKV H [] []
  | consI {i : Int} {v : V} {ws : List (Key × V)} {d : PyData} {kvs : List (PyData × PyData)} : Rp H v d → RpKV H ws kvs → RpKV H ((.inl i, v) :: ws) ((.int i, d) :: kvs)
  | consS {x : Str} {v : V} {ws : List (Key × V)} {d : PyData} {kvs : List (PyData × PyData)} : Rp H v d → RpKV H ws kvs → RpKV H ((.inr x, v) :: ws) ((.str x, d) :: kvs)
end
mutual
theorem Rp.mono {H H' : Hp} (e : Same H H') : ∀ {v : V} {d : PyData}, Rp H v d → Rp H' v d
  | _, _, .non => .non
  | _, _, .bl b => .bl b
  | _, _, .int i => .int i
  | _, _, .str x => .str x
  | _, _, .lst h r => .lst (e _ _ h) (RpAll.mono e r)
  | _, _, .tup h r => .tup (e _ _ h) (RpAll.mono e r)
  | _, _, .dct h r => .dct (e _ _ h) (RpKV.mono e r)
theorem RpAll.mono {H H' : Hp} (e : Same H H') : ∀ {vs : List V} {ds : List PyData}, RpAll H vs ds → RpAll H' vs ds
  | _, _, .nil => .nil
  | _, _, .cons h r => .cons (Rp.mono e h) (RpAll.mono e r)
theorem RpKV.mono {H H' : Hp} (e : Same H H') : ∀ {vs : List (Key × V)} {ds : List (PyData × PyData)}, RpKV H vs ds → RpKV H' vs ds
  | _, _, .nil => .nil
  | _, _, .consI h r => .consI (Rp.mono e h) (RpKV.mono e r)
  | _, _, .consS h r => .consS (Rp.mono e h) (RpKV.mono e r)
end
theorem RpAll.length {H : Hp} : ∀ {vs : List V} {ds : List PyData}, RpAll H vs ds → vs.length = ds.length
  | _, _, .nil => rfl
  | _, _, .cons _ r => by rw [List.length_cons, List.length_cons, RpAll.length r]
theorem RpAll.get {H : Hp} : ∀ {vs : List V} {ds : List PyData} {i : Nat} {d : PyData}, RpAll H vs ds → ds[i]? = some d → ∃ v, vs[i]? = some v ∧ Rp H v d
  | _, _, _, _, .nil, e => by simp at e
  | _, _, 0, _, .cons h _, e => by simp at e; subst e; exact ⟨_, rfl, h⟩
  | _, _, i + 1, d, .cons _ r, e => by
    obtain ⟨v, h1, h2⟩ := RpAll.get (i := i) (d := d) r (by simpa using e)
    exact ⟨v, by simpa using h1, h2⟩
theorem RpAll.append {H : Hp} : ∀ {vs ws : List V} {ds es : List PyData}, RpAll H vs ds → RpAll H ws es → RpAll H (vs ++ ws) (ds ++ es)
  | _, _, _, _, .nil, s => s
  | _, _, _, _, .cons h r, s => .cons h (RpAll.append r s)
theorem RpAll.set {H : Hp} {v : V} {d : PyData} (q : Rp H v d) : ∀ {vs : List V} {ds : List PyData} (i : Nat), RpAll H vs ds → RpAll H (vs.set i v) (ds.set i d)
  | _, _, _, .nil => .nil
  | _, _, 0, .cons _ r => .cons q r
  | _, _, i + 1, .cons h r => .cons h (RpAll.set q i r)
theorem RpAll.take {H : Hp} : ∀ {vs : List V} {ds : List PyData} (n : Nat), RpAll H vs ds → RpAll H (vs.take n) (ds.take n)
  | _, _, 0, _ => .nil
  | _, _, _ + 1, .nil => .nil
  | _, _, n + 1, .cons h r => .cons h (RpAll.take n r)
theorem RpAll.drop {H : Hp} : ∀ {vs : List V} {ds : List PyData} (n : Nat), RpAll H vs ds → RpAll H (vs.drop n) (ds.drop n)
  | _, _, 0, r => r
  | _, _, _ + 1, .nil => .nil
  | _, _, n + 1, .cons _ r => RpAll.drop n r
theorem RpAll.dropLast {H : Hp} {vs : List V} {ds : List PyData} (r : RpAll H vs ds) : RpAll H vs.dropLast ds.dropLast := by
  rw [List.dropLast_eq_take, List.dropLast_eq_take, r.length]
  exact r.take _
theorem RpAll.reverse {H : Hp} : ∀ {vs : List V} {ds : List PyData}, RpAll H vs ds → RpAll H vs.reverse ds.reverse
  | _, _, .nil => .nil
  | _, _, .cons h r => by
    rw [List.reverse_cons, List.reverse_cons]
    exact RpAll.append (RpAll.reverse r) (.cons h .nil)
theorem RpAll.eraseIdx {H : Hp} : ∀ {vs : List V} {ds : List PyData} (i : Nat), RpAll H vs ds → RpAll H (vs.eraseIdx i) (ds.eraseIdx i)
  | _, _, _, .nil => .nil
  | _, _, 0, .cons _ r => r
  | _, _, i + 1, .cons h r => .cons h (RpAll.eraseIdx i r)
theorem RpAll.getV {H : Hp} : ∀ {vs : List V} {ds : List PyData} {i : Nat} {v : V}, RpAll H vs ds → vs[i]? = some v → ∃ d, ds[i]? = some d ∧ Rp H v d
  | _, _, _, _, .nil, e => by simp at e
  | _, _, 0, _, .cons h _, e => by simp at e; subst e; exact ⟨_, rfl, h⟩
  | _, _, i + 1, d, .cons _ r, e => by
    obtain ⟨v, h1, h2⟩ := RpAll.getV (i := i) r (by simpa using e)
    exact ⟨v, by simpa using h1, h2⟩
theorem RpAll.rep {H : Hp} {vs : List V} {ds : List PyData} (r : RpAll H vs ds) : ∀ n : Nat, RpAll H (List.replicate n vs).flatten (List.replicate n ds).flatten
  | 0 => .nil
  | n + 1 => by
    rw [List.replicate_succ, List.replicate_succ, List.flatten_cons, List.flatten_cons]
    exact r.append (RpAll.rep r n)
/-- ints -/
theorem RpAll.ints {H : Hp} : ∀ {vs : List V} {ns : List Int}, RpAll H vs (ns.map PyData.int) → vs = ns.map V.int
  | _, [], .nil => rfl
  | _, n :: ns, .cons h r => by
    cases h
    rw [List.map_cons, RpAll.ints r]
theorem RpAll.ofInts {H : Hp} : ∀ (ns : List Int), RpAll H (ns.map V.int) (ns.map PyData.int)
  | [] => .nil
  | n :: ns => .cons (.int n) (RpAll.ofInts ns)
theorem RpAll.bls {H : Hp} : ∀ {vs : List V} {ns : List Bool}, RpAll H vs (ns.map PyData.bool) → vs = ns.map V.bl
  | _, [], .nil => rfl
  | _, n :: ns, .cons h r => by
    cases h
    rw [List.map_cons, RpAll.bls r]
theorem RpAll.strs {H : Hp} : ∀ {vs : List V} {ns : List Str}, RpAll H vs (ns.map PyData.str) → vs = ns.map V.str
  | _, [], .nil => rfl
  | _, n :: ns, .cons h r => by
    cases h
    rw [List.map_cons, RpAll.strs r]
theorem RpAll.ofStrs {H : Hp} : ∀ (ns : List Str), RpAll H (ns.map V.str) (ns.map PyData.str)
  | [] => .nil
  | n :: ns => .cons (.str n) (RpAll.ofStrs ns)
/- no dict within -/
mutual
theorem Rp.dp {K : PySem.W.Frag} {H : Hp} : ∀ {v : V} {d : PyData}, Rp H v d → d.canLay0 = true → Dp K H v d
  | _, _, .non, _ => .non
  | _, _, .bl b, _ => .bl b
  | _, _, .int i, _ => .int i
  | _, _, .str x, _ => .str x
  | _, _, .lst h r, z => .lst (SqL.of h) (RpAll.dp r (by simpa [PyData.canLay0] using z))
  | _, _, .tup h r, z => .tup (SqT.of h) (RpAll.dp r (by simpa [PyData.canLay0] using z))
  | _, _, .dct h r, z => by simp [PyData.canLay0] at z
theorem RpAll.dp {K : PySem.W.Frag} {H : Hp} : ∀ {vs : List V} {ds : List PyData}, RpAll H vs ds → PyData.canLayAll0 ds = true → DpAll K H vs ds
  | _, _, .nil, _ => .nil
  | _, _, .cons h r, z => by
    simp only [PyData.canLayAll0, Bool.and_eq_true] at z
    exact .cons (Rp.dp h z.1) (RpAll.dp r z.2)
end

/-! ### slots -/
/-- what a slot holds: data that never changes any more; data that this def only reads; a list, a dict that only this slot holds; the script -/
inductive Sl where
  | sh (d : PyData) | bor (d : PyData) | own (xs : List PyData) | odk (kvs : List (PyData × PyData)) | scr (ns : List Int)
abbrev En := List (Option Sl)
inductive Vl where
  | tmp (s : Sl) | loc (i : Nat)
structure Ct where
  HB : Hp
  cls : Str → Value
  io : List Nat := []
  iv : Nat → V := fun _ => .non

def Sl.dat : Sl → PyData
  | .sh d => d
  | .bor d => d
  | .own xs => .list xs
  | .odk kvs => .dict kvs
  | .scr ns => .list (ns.map PyData.int)
def dat (env : En) : Vl → Option PyData
  | .tmp (.scr _) => none
  | .tmp s => some s.dat
  | .loc i => match env[i]? with
    | some (some (.scr _)) => none
    | some (some s) => some s.dat
    | _ => none

def RepS (K : PySem.W.Frag) (C : Ct) (HP H : Hp) : Sl → V → List Addr → Prop
  | .sh d, v, as => Rp HP v d ∧ as = []
  | .bor d, v, as => Rp C.HB v d ∧ as = []
  | .own xs, v, as => ∃ a vs, v = .ref a ∧ as = [a] ∧ H a = some (.lst vs) ∧ RpAll HP vs xs
  | .odk kvs, v, as => ∃ a ws, v = .ref a ∧ as = [a] ∧ H a = some (.dK ws) ∧ RpKV HP ws kvs
  | .scr ns, v, as => ∃ a, v = .ref a ∧ as = [] ∧ SqL K C.HB a (ns.map V.int)
def RepO (K : PySem.W.Frag) (C : Ct) (HP H : Hp) : Option Sl → Option V → List Addr → Prop
  | none, _, as => as = []
  | some s, some v, as => RepS K C HP H s v as
  | some _, none, _ => False
def RepE (K : PySem.W.Frag) (C : Ct) (HP H : Hp) : En → L2.St → List Addr → Prop
  | [], [], as => as = []
  | s :: env, v :: σ, as => ∃ a1 a2, as = a1 ++ a2 ∧ RepO K C HP H s v a1 ∧ RepE K C HP H env σ a2
  | _, _, _ => False
section
variable {K : PySem.W.Frag} {C : Ct} {HP HP' H H' : Hp} {σ : L2.St} {env : En} {as ts : List Addr} {s : Sl} {v : V}
theorem RepS.frame (e : Same HP HP') (r : RepS K C HP H s v as) (k : ∀ a ∈ as, H' a = H a) : RepS K C HP' H' s v as := by
  cases s with
  | sh d => exact ⟨r.1.mono e, r.2⟩
  | bor d => exact r
  | own xs =>
    obtain ⟨a, vs, h1, rfl, h3, h4⟩ := r
    exact ⟨a, vs, h1, rfl, (k a (by simp)).trans h3, h4.mono e⟩
  | odk xs =>
    obtain ⟨a, vs, h1, rfl, h3, h4⟩ := r
    exact ⟨a, vs, h1, rfl, (k a (by simp)).trans h3, h4.mono e⟩
  | scr ns => exact r
theorem RepO.frame {s : Option Sl} {v : Option V} (e : Same HP HP') (r : RepO K C HP H s v as) (k : ∀ a ∈ as, H' a = H a) : RepO K C HP' H' s v as := by
  cases s with
  | none => exact r
  | some s => cases v with
    | none => exact r
    | some v => exact RepS.frame e r k
theorem RepE.frame (e : Same HP HP') : ∀ {env : En} {σ : L2.St} {as : List Addr}, RepE K C HP H env σ as → (∀ a ∈ as, H' a = H a) → RepE K C HP' H' env σ as
  | [], [], _, r, _ => r
  | _ :: _, [], _, r, _ => r
  | [], _ :: _, _, r, _ => r
  | s :: env, v :: σ, as, r, k => by
    obtain ⟨a1, a2, rfl, h1, h2⟩ := r
    exact ⟨a1, a2, rfl, h1.frame e fun a ha => k a (List.mem_append_left _ ha), RepE.frame e h2 fun a ha => k a (List.mem_append_right _ ha)⟩
theorem RepE.len : ∀ {env : En} {σ : L2.St} {as : List Addr}, RepE K C HP H env σ as → σ.length = env.length
  | [], [], _, _ => rfl
  | _ :: _, [], _, r => r.elim
  | [], _ :: _, _, r => r.elim
  | s :: env, v :: σ, as, r => by
    obtain ⟨a1, a2, rfl, h1, h2⟩ := r
    rw [List.length_cons, List.length_cons, h2.len]
theorem RepS.there (r : RepS K C HP H s v as) : ∀ a ∈ as, H a ≠ none := by
  cases s with
  | sh d => intro a ha; rw [r.2] at ha; cases ha
  | bor d => intro a ha; rw [r.2] at ha; cases ha
  | own xs =>
    obtain ⟨a, vs, h1, rfl, h3, h4⟩ := r
    intro b hb
    have e : b = a := by simpa using hb
    rw [e, h3]; exact fun q => nomatch q
  | odk xs =>
    obtain ⟨a, vs, h1, rfl, h3, h4⟩ := r
    intro b hb
    have e : b = a := by simpa using hb
    rw [e, h3]; exact fun q => nomatch q
  | scr ns =>
    obtain ⟨a, h1, h2, h3⟩ := r
    intro b hb; rw [h2] at hb; cases hb
theorem RepE.there : ∀ {env : En} {σ : L2.St} {as : List Addr}, RepE K C HP H env σ as → ∀ a ∈ as, H a ≠ none
  | [], [], _, r, a, ha => by
    have e : _ = [] := r
    rw [e] at ha; cases ha
  | _ :: _, [], _, r, _, _ => r.elim
  | [], _ :: _, _, r, _, _ => r.elim
  | s :: env, v :: σ, as, r, a, ha => by
    obtain ⟨a1, a2, rfl, h1, h2⟩ := r
    rcases List.mem_append.mp ha with ha | ha
    · cases s with
      | none =>
        have e : a1 = [] := h1
        rw [e] at ha; cases ha
      | some s => cases v with
        | none => exact h1.elim
        | some v => exact RepS.there h1 a ha
    · exact h2.there a ha
/-- one slot, and what stands around it -/
theorem RepE.at : ∀ {env : En} {σ : L2.St} {as : List Addr} (i : Nat) {s : Option Sl}, RepE K C HP H env σ as → env[i]? = some s →
    ∃ (v : Option V) (pre a post : List Addr), σ[i]? = some v ∧ as = pre ++ (a ++ post) ∧ RepO K C HP H s v a ∧
      ∀ (HP' H' : Hp) (s' : Option Sl) (v' : Option V) (a' : List Addr), Same HP HP' → (∀ b ∈ pre ++ post, H' b = H b) → RepO K C HP' H' s' v' a' → RepE K C HP' H' (env.set i s') (σ.set i v') (pre ++ (a' ++ post))
  | [], _, _, i, s, _, e => by simp at e
  | _ :: _, [], _, _, _, r, _ => r.elim
  | t :: env, w :: σ, as, 0, s, r, e => by
    obtain ⟨a1, a2, rfl, h1, h2⟩ := r
    have e' : t = s := by simpa using e
    subst e'
    refine ⟨w, [], a1, a2, rfl, rfl, h1, fun HP' H' s' v' a' x k q => ⟨a', a2, rfl, q, h2.frame x fun b hb => k b (by simpa using hb)⟩⟩
  | t :: env, w :: σ, as, i + 1, s, r, e => by
    obtain ⟨a1, a2, rfl, h1, h2⟩ := r
    obtain ⟨v, pre, a, post, e1, e2, h3, h4⟩ := RepE.at i h2 (by simpa using e)
    subst e2
    refine ⟨v, a1 ++ pre, a, post, by simpa using e1, by simp, h3, fun HP' H' s' v' a' x k q => ?_⟩
    refine ⟨a1, pre ++ (a' ++ post), by simp, h1.frame x fun b hb => k b (by simp [hb]), h4 HP' H' s' v' a' x (fun b hb => k b ?_) q⟩
    rcases List.mem_append.mp hb with hb | hb
    · simp [hb]
    · simp [hb]

structure Rel (K : PySem.W.Frag) (C : Ct) (HP : Hp) (σ : L2.St) (H : Hp) (env : En) (as ts : List Addr) : Prop where
  exP : Same HP H
  exB : Same C.HB H
  rep : RepE K C HP H env σ as
  nd : (as ++ ts).Nodup
  own : ∀ a ∈ as ++ ts, HP a = none ∧ C.HB a = none ∧ H a ≠ none
  pin : ∀ k ∈ C.io, σ[k]? = some (some (C.iv k))
/-- from a state with the own addresses as to one with bs -/
structure Stp (HP H : Hp) (as : List Addr) (HP' H' : Hp) (bs : List Addr) : Prop where
  ex : Same HP HP'
  fr : ∀ a o, H a = some o → a ∉ as → H' a = some o
  sub : ∀ a ∈ bs, a ∈ as ∨ H a = none
  hp : ∀ a o, HP' a = some o → HP a = some o ∨ H a = none ∨ a ∈ as
  un : ∀ a, H' a = none → H a = none
theorem ne_none {α : Type} {o : Option α} (h : o ≠ none) : ∃ x, o = some x := by
  cases o with
  | none => exact absurd rfl h
  | some x => exact ⟨x, rfl⟩
theorem Stp.refl : Stp HP H as HP H as := ⟨Same.refl _, fun _ _ h _ => h, fun _ h => .inl h, fun _ _ h => .inl h, fun _ h => h⟩
theorem Stp.less {bs cs : List Addr} (x : Stp HP H as HP' H' bs) (h : ∀ a ∈ cs, a ∈ bs) : Stp HP H as HP' H' cs := ⟨x.ex, x.fr, fun a ha => x.sub a (h a ha), x.hp, x.un⟩
theorem Stp.from {bs cs : List Addr} (x : Stp HP H as HP' H' bs) (h : ∀ a ∈ as, a ∈ cs) : Stp HP H cs HP' H' bs :=
  ⟨x.ex, fun a o e n => x.fr a o e fun z => n (h a z), fun a ha => (x.sub a ha).elim (fun z => .inl (h a z)) .inr, fun a o e => (x.hp a o e).elim .inl fun z => z.elim (fun z => .inr (.inl z)) fun z => .inr (.inr (h a z)), x.un⟩
theorem Stp.trans {HP1 H1 HP2 H2 : Hp} {bs cs : List Addr} (x : Stp HP H as HP1 H1 bs) (y : Stp HP1 H1 bs HP2 H2 cs) : Stp HP H as HP2 H2 cs := by
  have back : ∀ a, a ∉ as → H a ≠ none → H1 a ≠ none ∧ a ∉ bs := fun a n h => by
    obtain ⟨o, e⟩ := ne_none h
    refine ⟨(by rw [x.fr a o e n]; exact fun q => (nomatch q)), fun hb => ?_⟩
    rcases x.sub a hb with z | z
    · exact n z
    · exact h z
  have dec : ∀ a, a ∈ bs ∨ H1 a = none → a ∈ as ∨ H a = none := fun a h => by
    by_cases h1 : a ∈ as
    · exact .inl h1
    · by_cases h2 : H a = none
      · exact .inr h2
      · obtain ⟨q1, q2⟩ := back a h1 h2
        rcases h with z | z
        · exact absurd z q2
        · exact absurd z q1
  refine ⟨x.ex.trans y.ex, fun a o e n => ?_, fun a ha => dec a (y.sub a ha), fun a o e => ?_, fun a h => x.un a (y.un a h)⟩
  · have q := back a n (by rw [e]; exact fun q => nomatch q)
    exact y.fr a o (x.fr a o e n) q.2
  · rcases y.hp a o e with z | z | z
    · exact x.hp a o z
    · rcases dec a (.inr z) with q | q
      · exact .inr (.inr q)
      · exact .inr (.inl q)
    · rcases dec a (.inl z) with q | q
      · exact .inr (.inr q)
      · exact .inr (.inl q)
theorem Rel.drop {ts' : List Addr} (r : Rel K C HP σ H env as ts) (h : ts'.Sublist ts) : Rel K C HP σ H env as ts' :=
  ⟨r.exP, r.exB, r.rep, r.nd.sublist (List.Sublist.append (List.Sublist.refl _) h), fun a ha => r.own a ((List.Sublist.append (List.Sublist.refl as) h).mem ha), r.pin⟩
theorem Rel.nots (r : Rel K C HP σ H env as ts) : Rel K C HP σ H env as [] := r.drop (List.nil_sublist _)
/-- pending temporaries stay -/
theorem Rel.pend {σ' : L2.St} {HP2 H2 : Hp} {env2 : En} {as2 t1 t2 : List Addr} (r : Rel K C HP σ' H env as t1) (x : Stp HP H as HP2 H2 (as2 ++ t2)) (r2 : Rel K C HP2 σ H2 env2 as2 t2) :
    Rel K C HP2 σ H2 env2 as2 (t1 ++ t2) ∧ (∀ a ∈ t1, H2 a = H a) ∧ Stp HP H (as ++ t1) HP2 H2 (as2 ++ (t1 ++ t2)) := by
  have nd := List.nodup_append.mp r.nd
  have t1a : ∀ a ∈ t1, a ∉ as := fun a h z => nd.2.2 a z a h rfl
  have stay : ∀ a ∈ t1, H2 a = H a := fun a h => by
    obtain ⟨o, e⟩ := ne_none (r.own a (List.mem_append_right _ h)).2.2
    rw [x.fr a o e (t1a a h), e]
  have fresh : ∀ a ∈ t1, a ∉ as2 ++ t2 := fun a h z => by
    rcases x.sub a z with q | q
    · exact t1a a h q
    · exact (r.own a (List.mem_append_right _ h)).2.2 q
  refine ⟨⟨r2.exP, r2.exB, r2.rep, ?_, fun a ha => ?_, r2.pin⟩, stay, x.ex, fun a o e n => x.fr a o e fun z => n (List.mem_append_left _ z), fun a ha => ?_, fun a o e => ?_, x.un⟩
  · have n2 := List.nodup_append.mp r2.nd
    refine List.nodup_append.mpr ⟨n2.1, List.nodup_append.mpr ⟨nd.2.1, n2.2.1, fun a ha b hb e => ?_⟩, fun a ha b hb e => ?_⟩
    · subst e; exact fresh a ha (List.mem_append_right _ hb)
    · subst e
      rcases List.mem_append.mp hb with hb | hb
      · exact fresh a hb (List.mem_append_left _ ha)
      · exact n2.2.2 a ha a hb rfl
  · rcases List.mem_append.mp ha with ha | ha
    · exact r2.own a (List.mem_append_left _ ha)
    · rcases List.mem_append.mp ha with ha | ha
      · have q := r.own a (List.mem_append_right _ ha)
        refine ⟨?_, q.2.1, by rw [stay a ha]; exact q.2.2⟩
        cases e : HP2 a with
        | none => rfl
        | some o =>
          rcases x.hp a o e with z | z | z
          · rw [q.1] at z; cases z
          · exact absurd z q.2.2
          · exact absurd z (t1a a ha)
      · exact r2.own a (List.mem_append_right _ ha)
  · rcases List.mem_append.mp ha with ha | ha
    · rcases x.sub a (List.mem_append_left _ ha) with z | z
      · exact .inl (List.mem_append_left _ z)
      · exact .inr z
    · rcases List.mem_append.mp ha with ha | ha
      · exact .inl (List.mem_append_right _ ha)
      · rcases x.sub a (List.mem_append_right _ ha) with z | z
        · exact .inl (List.mem_append_left _ z)
        · exact .inr z
  · rcases x.hp a o e with z | z | z
    · exact .inl z
    · exact .inr (.inl z)
    · exact .inr (.inr (List.mem_append_left _ z))
/-- a new object -/
theorem Rel.new {p : Addr} {o : HO} (r : Rel K C HP σ H env as ts) (hp : H p = none) : Rel K C HP σ (upd H p o) env as ts := by
  have ne : ∀ a, H a ≠ none → a ≠ p := fun a h e => h (by rw [e]; exact hp)
  refine ⟨fun a u e => ?_, fun a u e => ?_, r.rep.frame (Same.refl _) fun a ha => upd_ne (ne a (r.rep.there a ha)), r.nd, fun a ha => ?_, r.pin⟩
  · rw [upd_ne (ne_of_none (r.exP a u e) hp)]; exact r.exP a u e
  · rw [upd_ne (ne_of_none (r.exB a u e) hp)]; exact r.exB a u e
  · have q := r.own a ha
    exact ⟨q.1, q.2.1, by rw [upd_ne (ne a q.2.2)]; exact q.2.2⟩
theorem Rel.fresh {p : Addr} (r : Rel K C HP σ H env as ts) (hp : H p = none) : HP p = none ∧ C.HB p = none ∧ p ∉ as ++ ts := by
  refine ⟨r.exP.free hp, r.exB.free hp, fun h => (r.own p h).2.2 hp⟩
/-- .. held as a temporary -/
theorem Rel.newT {p : Addr} {o : HO} (r : Rel K C HP σ H env as ts) (hp : H p = none) : Rel K C HP σ (upd H p o) env as (p :: ts) := by
  have q := r.new (o := o) hp
  have f := r.fresh hp
  refine ⟨q.exP, q.exB, q.rep, ?_, fun a ha => ?_, q.pin⟩
  · have n := List.nodup_append.mp r.nd
    refine List.nodup_append.mpr ⟨n.1, List.nodup_cons.mpr ⟨fun h => f.2.2 (List.mem_append_right _ h), n.2.1⟩, fun a ha b hb e => ?_⟩
    subst e
    rcases List.mem_cons.mp hb with rfl | hb
    · exact f.2.2 (List.mem_append_left _ ha)
    · exact n.2.2 a ha a hb rfl
  · by_cases e : a = p
    · subst e
      exact ⟨f.1, f.2.1, by rw [upd_same]; exact fun q => nomatch q⟩
    · refine q.own a ?_
      rcases List.mem_append.mp ha with h | h
      · exact List.mem_append_left _ h
      · exact List.mem_append_right _ ((List.mem_cons.mp h).elim (fun z => absurd z e) id)
/-- .. held by no one, or frozen at once -/
theorem Same.put {p : Addr} {o : HO} (hp : HP p = none) : Same HP (upd HP p o) := fun a u e => by
  rw [upd_ne (ne_of_none e hp)]; exact e
theorem Rel.newP {p : Addr} {o : HO} (r : Rel K C HP σ H env as ts) (hp : H p = none) : Rel K C (upd HP p o) σ (upd H p o) env as ts := by
  have q := r.new (o := o) hp
  have f := r.fresh hp
  refine ⟨fun a u e => ?_, q.exB, q.rep.frame (Same.put f.1) fun _ _ => rfl, q.nd, fun a ha => ?_, q.pin⟩
  · by_cases z : a = p
    · subst z; rw [upd_same] at e ⊢; exact e
    · rw [upd_ne z] at e; exact q.exP a u e
  · have w := q.own a ha
    have z : a ≠ p := fun z => f.2.2 (by rw [← z]; exact ha)
    exact ⟨by rw [upd_ne z]; exact w.1, w.2⟩
theorem Stp.new {p : Addr} {o : HO} (hp : H p = none) : Stp HP H as HP (upd H p o) as :=
  ⟨Same.refl _, fun a u e _ => by rw [upd_ne (ne_of_none e hp)]; exact e, fun _ h => .inl h, fun _ _ h => .inl h, fun a h => by
    by_cases z : a = p
    · rw [z]; exact hp
    · rw [upd_ne z] at h; exact h⟩
theorem Stp.newT {p : Addr} {o : HO} {bs : List Addr} (hp : H p = none) (hb : ∀ a ∈ bs, a ∈ as ∨ a = p) : Stp HP H as HP (upd H p o) bs :=
  ⟨Same.refl _, (Stp.new (HP := HP) (as := as) hp).fr, fun a h => (hb a h).elim .inl fun z => .inr (by rw [z]; exact hp), fun _ _ h => .inl h, (Stp.new (HP := HP) (as := as) hp).un⟩
theorem Stp.newP {p : Addr} {o : HO} {bs : List Addr} (f : HP p = none) (hp : H p = none) (hb : ∀ a ∈ bs, a ∈ as) : Stp HP H as (upd HP p o) (upd H p o) bs :=
  ⟨Same.put f, (Stp.new (HP := HP) (as := as) hp).fr, fun a h => .inl (hb a h), fun a u e => by
    by_cases z : a = p
    · rw [z]; exact .inr (.inl hp)
    · rw [upd_ne z] at e; exact .inl e, (Stp.new (HP := HP) (as := as) hp).un⟩
end
end L3

/-! L3B: readings over data, lifted to readings over heaps. -/
namespace L3
open PySem L2
structure Ex3 where
  cls : Str
  fs : List (Str × PyData)
abbrev DX := Ex3 → En → Prop
abbrev DK := Vl → En → Prop
abbrev DE := DX → En → DK → Prop
abbrev DT := DX → En → (Bool → En → Prop) → Prop
abbrev DA := DX → En → (List Vl → En → Prop) → Prop

def RepV (K : PySem.W.Frag) (C : Ct) (HP H : Hp) (σ : L2.St) : Vl → V → List Addr → Prop
  | .tmp s, v, ts => RepS K C HP H s v ts
  | .loc i, v, ts => σ[i]? = some (some v) ∧ ts = []
def RepVs (K : PySem.W.Frag) (C : Ct) (HP H : Hp) (σ : L2.St) : List Vl → List V → List Addr → Prop
  | [], vs, ts => vs = [] ∧ ts = []
  | a :: as, vs, ts => ∃ v r t1 t2, vs = v :: r ∧ ts = t1 ++ t2 ∧ RepV K C HP H σ a v t1 ∧ RepVs K C HP H σ as r t2
def RpF (HP : Hp) : List (Str × V) → List (Str × PyData) → Prop := Paired fun (p : Str × V) (q : Str × PyData) => p.1 = q.1 ∧ Rp HP p.2 q.2
def ExR (HP H : Hp) (e : Ex3) (d : Option Addr) : Prop := (e.fs = [] ∧ d = none) ∨ ∃ a fs, d = some a ∧ H a = some (.xd fs) ∧ RpF HP fs e.fs
def lX (K : PySem.W.Frag) (C : Ct) (W : WX) (σ : L2.St) (HP H : Hp) (as : List Addr) : DX := fun e env' => ∀ HP' H' as' d, Rel K C HP' σ H' env' as' [] → Stp HP H as HP' H' as' → ExR HP' H' e d → W (C.cls e.cls) d σ H'
def Po (K : PySem.W.Frag) (C : Ct) (σ : L2.St) (HP H : Hp) (as : List Addr) (Q : VK) : DK := fun val env' => ∀ v HP' H' as' ts', Rel K C HP' σ H' env' as' ts' → Stp HP H as HP' H' (as' ++ ts') → RepV K C HP' H' σ val v ts' → Q v H'
def PoT (K : PySem.W.Frag) (C : Ct) (σ : L2.St) (HP H : Hp) (as : List Addr) (Q : Bool → Hp → Prop) : Bool → En → Prop := fun b env' => ∀ HP' H' as', Rel K C HP' σ H' env' as' [] → Stp HP H as HP' H' as' → Q b H'
def PoA (K : PySem.W.Frag) (C : Ct) (σ : L2.St) (HP H : Hp) (as : List Addr) (Q : List V → Hp → Prop) : List Vl → En → Prop := fun vals env' => ∀ vs HP' H' as' ts', Rel K C HP' σ H' env' as' ts' → Stp HP H as HP' H' (as' ++ ts') → RepVs K C HP' H' σ vals vs ts' → Q vs H'
def lift (K : PySem.W.Frag) (C : Ct) (W : WX) (t : DE) : TE := fun σ H Q => ∃ HP env as, Rel K C HP σ H env as [] ∧ t (lX K C W σ HP H as) env (Po K C σ HP H as Q)
def liftT (K : PySem.W.Frag) (C : Ct) (W : WX) (t : DT) : TT := fun σ H Q => ∃ HP env as, Rel K C HP σ H env as [] ∧ t (lX K C W σ HP H as) env (PoT K C σ HP H as Q)
def liftA (K : PySem.W.Frag) (C : Ct) (W : WX) (t : DA) : TA := fun σ H Q => ∃ HP env as, Rel K C HP σ H env as [] ∧ t (lX K C W σ HP H as) env (PoA K C σ HP H as Q)

def MonoE (t : DE) : Prop := ∀ (ex ex' : DX) (env : En) (Q Q' : DK), (∀ e n, ex e n → ex' e n) → (∀ v n, Q v n → Q' v n) → t ex env Q → t ex' env Q'
def MonoT (t : DT) : Prop := ∀ (ex ex' : DX) (env : En) (Q Q' : Bool → En → Prop), (∀ e n, ex e n → ex' e n) → (∀ v n, Q v n → Q' v n) → t ex env Q → t ex' env Q'
def MonoA (t : DA) : Prop := ∀ (ex ex' : DX) (env : En) (Q Q' : List Vl → En → Prop), (∀ e n, ex e n → ex' e n) → (∀ v n, Q v n → Q' v n) → t ex env Q → t ex' env Q'

structure DP (X : Cx) (C : Ct) (W : WX) (e : Expr) (t : DE) : Prop where
  run : PE X e (lift X.K C W t)
  mono : MonoE t
structure DPT (X : Cx) (C : Ct) (W : WX) (e : Expr) (t : DT) : Prop where
  run : PT X e (liftT X.K C W t)
  mono : MonoT t
structure DPA (X : Cx) (C : Ct) (W : WX) (es : List Expr) (t : DA) : Prop where
  run : PA X es (liftA X.K C W t)
  mono : MonoA t
theorem _root_.L2.PE.imp {X : Cx} {e : Expr} {t t' : TE} (h : PE X e t) (k : ∀ σ H Q, t' σ H Q → t σ H Q) : PE X e t' := ⟨fun pins s σ H Q I q => h.run pins s σ H Q I (k σ H Q q)⟩
theorem _root_.L2.PT.imp {X : Cx} {e : Expr} {t t' : TT} (h : PT X e t) (k : ∀ σ H Q, t' σ H Q → t σ H Q) : PT X e t' := ⟨fun pins s σ H Q I q => h.run pins s σ H Q I (k σ H Q q)⟩
theorem _root_.L2.PA.imp {X : Cx} {e : List Expr} {t t' : TA} (h : PA X e t) (k : ∀ σ H Q, t' σ H Q → t σ H Q) : PA X e t' := ⟨fun pos pins s σ H Q I q => h.run pos pins s σ H Q I (k σ H Q q)⟩

section
variable {K : PySem.W.Frag} {C : Ct} {W : WX} {HP HP' H H' : Hp} {σ : L2.St} {env : En} {as ts : List Addr} {s : Sl} {v : V}
theorem RepV.frame {val : Vl} (e : Same HP HP') (r : RepV K C HP H σ val v ts) (k : ∀ a ∈ ts, H' a = H a) : RepV K C HP' H' σ val v ts := by
  cases val with
  | tmp s => exact RepS.frame e r k
  | loc i => exact r
theorem RepVs.frame (e : Same HP HP') : ∀ {vals : List Vl} {vs : List V} {ts : List Addr}, RepVs K C HP H σ vals vs ts → (∀ a ∈ ts, H' a = H a) → RepVs K C HP' H' σ vals vs ts
  | [], _, _, r, _ => r
  | a :: as, vs, ts, r, k => by
    obtain ⟨v, w, t1, t2, rfl, rfl, h1, h2⟩ := r
    exact ⟨v, w, t1, t2, rfl, rfl, h1.frame e fun a ha => k a (List.mem_append_left _ ha), RepVs.frame e h2 fun a ha => k a (List.mem_append_right _ ha)⟩
/-- whatever holds it: it stands as these data -/
theorem RepS.rp (hP : Same HP H) (hB : Same C.HB H) (r : RepS K C HP H s v ts) {d : PyData} (e : dat env (.tmp s) = some d) : Rp H v d := by
  cases s with
  | sh d' => cases e; exact r.1.mono hP
  | bor d' => cases e; exact r.1.mono hB
  | own xs =>
    cases e
    obtain ⟨a, vs, rfl, _, h3, h4⟩ := r
    exact .lst h3 (h4.mono hP)
  | odk xs =>
    cases e
    obtain ⟨a, vs, rfl, _, h3, h4⟩ := r
    exact .dct h3 (h4.mono hP)
  | scr ns => cases e
theorem Rel.slot (r : Rel K C HP σ H env as ts) {i : Nat} (e : env[i]? = some (some s)) : ∃ v a, σ[i]? = some (some v) ∧ RepS K C HP H s v a ∧ ∀ b ∈ a, b ∈ as := by
  obtain ⟨v, pre, a, post, h1, h2, h3, _⟩ := r.rep.at i e
  cases v with
  | none => exact h3.elim
  | some v => exact ⟨v, a, h1, h3, fun b hb => by rw [h2]; simp [hb]⟩
theorem Rel.rp (r : Rel K C HP σ H env as ts) {val : Vl} {t : List Addr} (q : RepV K C HP H σ val v t) {d : PyData} (e : dat env val = some d) : Rp H v d := by
  cases val with
  | tmp s => exact RepS.rp r.exP r.exB q e
  | loc i =>
    cases h : env[i]? with
    | none => simp [dat, h] at e
    | some o => cases o with
      | none => simp [dat, h] at e
      | some s =>
        obtain ⟨v', a, e1, r1, _⟩ := r.slot h
        rw [q.1] at e1; cases e1
        refine RepS.rp (env := env) r.exP r.exB r1 ?_
        cases s <;> simp [dat, h] at e ⊢ <;> exact e
theorem Po.imp {Q Q' : VK} {val : Vl} {env' : En} (p : Po K C σ HP H as Q val env') (k : ∀ v H, Q v H → Q' v H) : Po K C σ HP H as Q' val env' := fun v HP' H' as' ts' r x q => k v H' (p v HP' H' as' ts' r x q)
theorem Po.sh {Q : VK} {d : PyData} {t : List Addr} (p : Po K C σ HP H t Q (.tmp (.sh d)) env) (r : Rel K C HP σ H env as ts) (h : ∀ a ∈ as, a ∈ t) (q : Rp HP v d) : Q v H :=
  p v HP H as [] r.nots (Stp.refl.less fun a ha => h a (by simpa using ha)) ⟨q, rfl⟩
theorem Po.bor {Q : VK} {d : PyData} {t : List Addr} (p : Po K C σ HP H t Q (.tmp (.bor d)) env) (r : Rel K C HP σ H env as ts) (h : ∀ a ∈ as, a ∈ t) (q : Rp C.HB v d) : Q v H :=
  p v HP H as [] r.nots (Stp.refl.less fun a ha => h a (by simpa using ha)) ⟨q, rfl⟩
theorem Po.own {Q : VK} {xs : List PyData} {vs : List V} {p : Addr} {t : List Addr} (h : Po K C σ HP H t Q (.tmp (.own xs)) env) (r : Rel K C HP σ H env as ts) (hs : ∀ a ∈ as, a ∈ t) (hp : H p = none) (q : RpAll HP vs xs) : Q (.ref p) (upd H p (.lst vs)) :=
  h (.ref p) HP _ as [p] (r.nots.newT hp) (Stp.newT hp fun a ha => by
    rcases List.mem_append.mp ha with z | z
    · exact .inl (hs a z)
    · exact .inr (by simpa using z)) ⟨p, vs, rfl, rfl, upd_same, q⟩
theorem Po.dict {Q : VK} {xs : List (PyData × PyData)} {vs : List (Key × V)} {p : Addr} {t : List Addr} (h : Po K C σ HP H t Q (.tmp (.odk xs)) env) (r : Rel K C HP σ H env as ts) (hs : ∀ a ∈ as, a ∈ t) (hp : H p = none) (q : RpKV HP vs xs) : Q (.ref p) (upd H p (.dK vs)) :=
  h (.ref p) HP _ as [p] (r.nots.newT hp) (Stp.newT hp fun a ha => by
    rcases List.mem_append.mp ha with z | z
    · exact .inl (hs a z)
    · exact .inr (by simpa using z)) ⟨p, vs, rfl, rfl, upd_same, q⟩
/-- a new tuple, frozen at once -/
theorem Po.tup {Q : VK} {xs : List PyData} {vs : List V} {p : Addr} {t : List Addr} (h : Po K C σ HP H t Q (.tmp (.sh (.tuple xs))) env) (r : Rel K C HP σ H env as ts) (hs : ∀ a ∈ as, a ∈ t) (hp : H p = none) (q : RpAll HP vs xs) : Q (.ref p) (upd H p (.tup vs)) :=
  h (.ref p) (upd HP p (.tup vs)) _ as [] (r.nots.newP hp) (Stp.newP (r.fresh hp).1 hp fun a ha => hs a (by simpa using ha)) ⟨.tup upd_same (q.mono (Same.put (r.fresh hp).1)), rfl⟩
theorem lX.imp {as1 bs : List Addr} {HP1 H1 : Hp} {e : Ex3} {n : En} (h : lX K C W σ HP H as e n) (x : Stp HP H as HP1 H1 bs) (hb : ∀ a ∈ as1, a ∈ bs) : lX K C W σ HP1 H1 as1 e n := fun HP' H' as' d r y q => h HP' H' as' d r ((x.less hb).trans y) q
end

/-! ### two operands, then an operation on them -/
def d2 (ta tb : DE) (k : Vl → Vl → En → DK → Prop) : DE := fun ex env Q => ta ex env fun va env1 => tb ex env1 fun vb env2 => k va vb env2 Q
def d1 (ta : DE) (k : Vl → En → DK → Prop) : DE := fun ex env Q => ta ex env fun va env1 => k va env1 Q
def MonoK2 (k : Vl → Vl → En → DK → Prop) : Prop := ∀ a b n Q Q', (∀ v n, Q v n → Q' v n) → k a b n Q → k a b n Q'
def MonoK1 (k : Vl → En → DK → Prop) : Prop := ∀ a n Q Q', (∀ v n, Q v n → Q' v n) → k a n Q → k a n Q'
theorem MonoE.d2 {ta tb : DE} {k : Vl → Vl → En → DK → Prop} (ma : MonoE ta) (mb : MonoE tb) (mk : MonoK2 k) : MonoE (d2 ta tb k) := fun ex ex' env Q Q' he hq h =>
  ma ex ex' env _ _ he (fun va n h1 => mb ex ex' n _ _ he (fun vb n2 h2 => mk va vb n2 Q Q' hq h2) h1) h
theorem MonoE.d1 {ta : DE} {k : Vl → En → DK → Prop} (ma : MonoE ta) (mk : MonoK1 k) : MonoE (d1 ta k) := fun ex ex' env Q Q' he hq h =>
  ma ex ex' env _ _ he (fun va n h1 => mk va n Q Q' hq h1) h
/-- an operation by values keeps the reading k -/
def Ok2 (K : PySem.W.Frag) (C : Ct) (r : R2) (k : Vl → Vl → En → DK → Prop) : Prop :=
  ∀ (σ : L2.St) (HP H : Hp) (env : En) (as t1 t2 : List Addr) (va vb : Vl) (x y : V) (Qd : DK) (Q : VK), Rel K C HP σ H env as (t1 ++ t2) → RepV K C HP H σ va x t1 → RepV K C HP H σ vb y t2 → k va vb env Qd →
    (∀ val n, Qd val n → Po K C σ HP H (as ++ (t1 ++ t2)) Q val n) → r x y H Q
def Ok1 (K : PySem.W.Frag) (C : Ct) (r : V → Hp → VK → Prop) (k : Vl → En → DK → Prop) : Prop :=
  ∀ (σ : L2.St) (HP H : Hp) (env : En) (as t1 : List Addr) (va : Vl) (x : V) (Qd : DK) (Q : VK), Rel K C HP σ H env as t1 → RepV K C HP H σ va x t1 → k va env Qd →
    (∀ val n, Qd val n → Po K C σ HP H (as ++ t1) Q val n) → r x H Q
section
variable {K : PySem.W.Frag} {C : Ct} {W : WX} {ta tb : DE} {k : Vl → Vl → En → DK → Prop} {k1 : Vl → En → DK → Prop} {r : R2} {r1 : V → Hp → VK → Prop} {σ : L2.St} {H : Hp} {Q : VK}
theorem lift2 (ma : MonoE ta) (mb : MonoE tb) (ok : Ok2 K C r k) (h : lift K C W (d2 ta tb k) σ H Q) : lift K C W ta σ H fun x H1 => lift K C W tb σ H1 fun y H2 => r x y H2 Q := by
  obtain ⟨HP, env, as, R, h⟩ := h
  refine ⟨HP, env, as, R, ma _ _ env _ _ (fun _ _ z => z) (fun va n h1 => ?_) h⟩
  intro x HP1 H1 as1 t1 R1 X1 V1
  refine ⟨HP1, n, as1, R1.nots, mb _ _ n _ _ (fun e n z => z.imp X1 fun a ha => List.mem_append_left _ ha) (fun vb n2 h2 => ?_) h1⟩
  intro y HP2 H2 as2 t2 R2 X2 V2
  obtain ⟨R3, st, X3⟩ := R1.pend X2 R2
  exact ok σ HP2 H2 n2 as2 t1 t2 va vb x y _ Q R3 (V1.frame X2.ex st) V2 h2 fun val m q v HP' H' as' ts' R' X' V' => q v HP' H' as' ts' R' ((X1.trans X3).trans X') V'
theorem lift1 (ma : MonoE ta) (ok : Ok1 K C r1 k1) (h : lift K C W (d1 ta k1) σ H Q) : lift K C W ta σ H fun x H1 => r1 x H1 Q := by
  obtain ⟨HP, env, as, R, h⟩ := h
  refine ⟨HP, env, as, R, ma _ _ env _ _ (fun _ _ z => z) (fun va n h1 => ?_) h⟩
  intro x HP1 H1 as1 t1 R1 X1 V1
  exact ok σ HP1 H1 n as1 t1 va x _ Q R1 V1 h1 fun val m q v HP' H' as' ts' R' X' V' => q v HP' H' as' ts' R' (X1.trans X') V'
end
section
variable {X : Cx} {C : Ct} {W : WX} {a b : Expr} {ta tb : DE} {k : Vl → Vl → En → DK → Prop} {k1 : Vl → En → DK → Prop} {r : R2} {r1 : V → Hp → VK → Prop} {pos : Pos}
theorem dp_op {op : Operator} (ho : OpR X (binaryOp op) r) (ok : Ok2 X.K C r k) (mk : MonoK2 k) (ha : DP X C W a ta) (hb : DP X C W b tb) : DP X C W (.BinOp a op b pos) (d2 ta tb k) :=
  ⟨(pe_op ho ha.run hb.run).imp fun σ H Q h => lift2 ha.mono hb.mono ok h, ha.mono.d2 hb.mono mk⟩
theorem dp_cmp {op : CmpOp} (ho : OpR X (compareOp op) r) (ok : Ok2 X.K C r k) (mk : MonoK2 k) (ha : DP X C W a ta) (hb : DP X C W b tb) (hm : behindInMarks op b = false) : DP X C W (.Compare a [op] [b] pos) (d2 ta tb k) :=
  ⟨(pe_cmpR ho ha.run hb.run hm).imp fun σ H Q h => lift2 ha.mono hb.mono ok h, ha.mono.d2 hb.mono mk⟩
theorem dp_un {op : UnaryOp} (ho : UnR X (unaryOp op) r1) (ok : Ok1 X.K C r1 k1) (mk : MonoK1 k1) (ha : DP X C W a ta) : DP X C W (.UnaryOp op a pos) (d1 ta k1) :=
  ⟨(pe_un ho ha.run).imp fun σ H Q h => lift1 ha.mono ok h, ha.mono.d1 mk⟩
theorem dp_ixR (hr : IxR X r) (ok : Ok2 X.K C r k) (mk : MonoK2 k) (ha : DP X C W a ta) (hb : DP X C W b tb) (hs : PlainIx b) : DP X C W (.Subscript a b pos) (d2 ta tb k) :=
  ⟨(pe_ix hr ha.run hb.run hs).imp fun σ H Q h => lift2 ha.mono hb.mono ok h, ha.mono.d2 hb.mono mk⟩
end

/-! ### leaves -/
def dVar (i : Nat) : DE := fun _ env Q => ∃ s, env[i]? = some (some s) ∧ (match s with
  | .sh d => Q (.tmp (.sh d)) env
  | .bor d => Q (.tmp (.bor d)) env
  | .scr ns => Q (.tmp (.scr ns)) env
  | _ => Q (.loc i) env)
def dC (d : PyData) : DE := fun _ env Q => Q (.tmp (.sh d)) env
theorem mono_var {i : Nat} : MonoE (dVar i) := fun ex ex' env Q Q' _ hq ⟨s, e, h⟩ => ⟨s, e, by cases s <;> exact hq _ _ h⟩
theorem mono_c {d : PyData} : MonoE (dC d) := fun ex ex' env Q Q' _ hq h => hq _ _ h
section
variable {X : Cx} {C : Ct} {W : WX} {pos : Pos}
theorem lift_c {K : PySem.W.Frag} {v : V} {d : PyData} (h : ∀ H, Rp H v d) {σ : L2.St} {H : Hp} {Q : VK} (q : lift K C W (dC d) σ H Q) : Q v H := by
  obtain ⟨HP, env, as, R, p⟩ := q
  exact Po.sh p R (fun a ha => ha) (h HP)
theorem dv (i : Nat) {x : Str} (hN : X.N[i]? = some x := by rfl) (hv : Vis X.env.scope x := by first | exact Or.inl rfl | exact Or.inr (Or.inl rfl) | exact Or.inr (Or.inr rfl)) (hd : (x == ("__debug__" : Str)) = false := by decide)
    (hcd : (x == ("__classdict__" : Str)) = false := by decide) : DP X C W (.Name x pos) (dVar i) := by
  refine ⟨(pe_var hN hv hd hcd).imp fun σ H Q h => ?_, mono_var⟩
  obtain ⟨HP, env, as, R, s, e, p⟩ := h
  obtain ⟨v, a, e1, r, _⟩ := R.slot e
  refine ⟨v, e1, ?_⟩
  cases s with
  | sh d => exact Po.sh p R (fun a ha => ha) r.1
  | bor d => exact Po.bor p R (fun a ha => ha) r.1
  | own xs => exact p v HP H as [] R (Stp.refl.less fun a ha => by simpa using ha) ⟨e1, rfl⟩
  | odk xs => exact p v HP H as [] R (Stp.refl.less fun a ha => by simpa using ha) ⟨e1, rfl⟩
  | scr ns =>
    obtain ⟨b, h1, h2, h3⟩ := r
    exact p v HP H as [] R (Stp.refl.less fun a ha => by simpa using ha) ⟨b, h1, rfl, h3⟩
theorem di {i j} : DP X C W (.Constant (.int i) j pos) (dC (.int i)) := ⟨pe_int.imp fun σ H Q h => lift_c (fun H => .int i) h, mono_c⟩
theorem db {b j} : DP X C W (.Constant (.bool b) j pos) (dC (.bool b)) := ⟨pe_bl.imp fun σ H Q h => lift_c (fun H => .bl b) h, mono_c⟩
theorem dn {j} : DP X C W (.Constant .none j pos) (dC .none) := ⟨pe_non.imp fun σ H Q h => lift_c (fun H => .non) h, mono_c⟩
theorem ds {x j} : DP X C W (.Constant (.str x) j pos) (dC (.str x)) := ⟨pe_str.imp fun σ H Q h => lift_c (fun H => .str x) h, mono_c⟩
/-- a module's constant -/
theorem dg {x : Str} {u : Value} {v : V} {d : PyData} (hg : Gl X x) (hm : X.mg x = some u) (r : RelV v u) (hd : ∀ H, Rp H v d) (hdb : (x == ("__debug__" : Str)) = false := by decide) : DP X C W (.Name x pos) (dC d) :=
  ⟨(pe_glob hg hm r hdb).imp fun σ H Q h => lift_c hd h, mono_c⟩
end
end L3

/-! L3C: operations on data. -/
namespace L3
open PySem L2

def scal : PyData → Bool
  | .none | .bool _ | .int _ | .str _ => true
  | _ => false
theorem scal_ints (ns : List Int) : (ns.map PyData.int).all scal = true := List.all_eq_true.mpr fun d hd => by
  obtain ⟨n, _, rfl⟩ := List.mem_map.mp hd
  rfl
theorem scal_strs (ns : List Str) : (ns.map PyData.str).all scal = true := List.all_eq_true.mpr fun d hd => by
  obtain ⟨n, _, rfl⟩ := List.mem_map.mp hd
  rfl
def permS : Sl → Bool
  | .bor (.list xs) => xs.all scal
  | .bor (.tuple xs) => xs.all scal
  | .bor d => scal d
  | _ => true
def slotOf (env : En) : Vl → Option Sl
  | .tmp s => some s
  | .loc i => (env[i]?).join
def perm (env : En) (v : Vl) : Bool := match slotOf env v with
  | some s => permS s
  | none => false
/-- the item of what s holds -/
def chS (s : Sl) (d : PyData) : Sl := match s with
  | .bor _ => if scal d = true then .sh d else .bor d
  | _ => .sh d
def ch (env : En) (v : Vl) (d : PyData) : Vl := match slotOf env v with
  | some s => .tmp (chS s d)
  | none => .tmp (.sh d)

theorem Rp.scal {H H' : Hp} : ∀ {v : V} {d : PyData}, Rp H v d → scal d = true → Rp H' v d
  | _, _, .non, _ => .non
  | _, _, .bl b, _ => .bl b
  | _, _, .int i, _ => .int i
  | _, _, .str x, _ => .str x
  | _, _, .lst _ _, z => by cases z
  | _, _, .tup _ _, z => by cases z
  | _, _, .dct _ _, z => by cases z
theorem RpAll.scal {H H' : Hp} : ∀ {vs : List V} {ds : List PyData}, RpAll H vs ds → ds.all scal = true → RpAll H' vs ds
  | _, _, .nil, _ => .nil
  | _, _, .cons h r, z => by
    rw [List.all_cons, Bool.and_eq_true] at z
    exact .cons (h.scal z.1) (r.scal z.2)
section
variable {K : PySem.W.Frag} {C : Ct} {W : WX} {HP HP' H H' : Hp} {σ : L2.St} {env : En} {as ts : List Addr} {s : Sl} {v x y : V} {va vb : Vl} {t : List Addr}
theorem dat_slot {d : PyData} (e : dat env va = some d) : ∃ s, slotOf env va = some s ∧ s.dat = d ∧ ∀ ns, s ≠ .scr ns := by
  cases va with
  | tmp s => cases s <;> simp [dat] at e <;> exact ⟨_, rfl, e, fun ns q => nomatch q⟩
  | loc i =>
    cases h : env[i]? with
    | none => simp [dat, h] at e
    | some o => cases o with
      | none => simp [dat, h] at e
      | some s =>
        have h' : slotOf env (.loc i) = some s := by simp [slotOf, h]
        cases s <;> simp [dat, h] at e <;> exact ⟨_, h', e, fun ns q => nomatch q⟩
theorem Rel.here (r : Rel K C HP σ H env as ts) (q : RepV K C HP H σ va x t) (e : slotOf env va = some s) : ∃ a, RepS K C HP H s x a := by
  cases va with
  | tmp s' => cases e; exact ⟨t, q⟩
  | loc i =>
    have e' : env[i]? = some (some s) := by
      unfold slotOf at e
      dsimp only at e
      cases h : env[i]? with
      | none => rw [h] at e; cases e
      | some o => rw [h] at e; cases o with
        | none => cases e
        | some s' => cases e; rfl
    obtain ⟨v', a, e1, r1, _⟩ := r.slot e'
    rw [q.1] at e1; cases e1
    exact ⟨a, r1⟩
/-- a list's items, as they may be kept -/
theorem Rel.kids (r : Rel K C HP σ H env as ts) (q : RepV K C HP H σ va x t) {xs : List PyData} (e : dat env va = some (.list xs)) (p : perm env va = true) : ∃ a vs, x = .ref a ∧ H a = some (.lst vs) ∧ RpAll HP vs xs := by
  obtain ⟨s, h1, h2, h3⟩ := dat_slot e
  obtain ⟨a, rs⟩ := r.here q h1
  unfold perm at p
  rw [h1] at p
  cases s with
  | sh d =>
    cases h2
    obtain ⟨rs, _⟩ := rs
    cases rs with
    | lst g k => exact ⟨_, _, rfl, r.exP _ _ g, k⟩
  | bor d =>
    cases h2
    obtain ⟨rs, _⟩ := rs
    cases rs with
    | lst g k => exact ⟨_, _, rfl, r.exB _ _ g, k.scal p⟩
  | own ys =>
    cases h2
    obtain ⟨a, vs, e1, _, e3, e4⟩ := rs
    exact ⟨a, vs, e1, e3, e4⟩
  | odk kvs => cases h2
  | scr ns => exact absurd rfl (h3 ns)
theorem Rel.kidsT (r : Rel K C HP σ H env as ts) (q : RepV K C HP H σ va x t) {xs : List PyData} (e : dat env va = some (.tuple xs)) (p : perm env va = true) : ∃ a vs, x = .ref a ∧ H a = some (.tup vs) ∧ RpAll HP vs xs := by
  obtain ⟨s, h1, h2, h3⟩ := dat_slot e
  obtain ⟨a, rs⟩ := r.here q h1
  unfold perm at p
  rw [h1] at p
  cases s with
  | sh d =>
    cases h2
    obtain ⟨rs, _⟩ := rs
    cases rs with
    | tup g k => exact ⟨_, _, rfl, r.exP _ _ g, k⟩
  | bor d =>
    cases h2
    obtain ⟨rs, _⟩ := rs
    cases rs with
    | tup g k => exact ⟨_, _, rfl, r.exB _ _ g, k.scal p⟩
  | own ys => cases h2
  | odk kvs => cases h2
  | scr ns => exact absurd rfl (h3 ns)
/-- an item of a list or tuple -/
theorem Rel.child (r : Rel K C HP σ H env as ts) (q : RepV K C HP H σ va x t) {xs : List PyData} (e : dat env va = some (.list xs) ∨ dat env va = some (.tuple xs)) :
    ∃ a vs, x = .ref a ∧ (dat env va = some (.list xs) → H a = some (.lst vs)) ∧ (dat env va = some (.tuple xs) → H a = some (.tup vs)) ∧ vs.length = xs.length ∧
      ∀ (i : Nat) (d : PyData), xs[i]? = some d → ∃ w, vs[i]? = some w ∧ RepV K C HP H σ (ch env va d) w [] := by
  have e0 : ∃ d, dat env va = some d := e.elim (fun z => ⟨_, z⟩) fun z => ⟨_, z⟩
  obtain ⟨d0, e0⟩ := e0
  obtain ⟨s, h1, h2, h3⟩ := dat_slot e0
  obtain ⟨b, rs⟩ := r.here q h1
  have hc : ∀ d, ch env va d = .tmp (chS s d) := fun d => by unfold ch; rw [h1]
  have bor2 : ∀ {w : V} {d : PyData}, Rp C.HB w d → RepS K C HP H (chS (.bor .none) d) w [] := fun {w d} g => by
    unfold chS
    dsimp only
    by_cases z : L3.scal d = true
    · rw [if_pos z]; exact ⟨g.scal z, rfl⟩
    · rw [if_neg z]; exact ⟨g, rfl⟩
  rcases e with e | e
  · rw [e] at e0
    have e1 := Option.some.inj e0
    subst e1
    cases s with
    | sh d =>
      cases h2
      obtain ⟨rs, _⟩ := rs
      cases rs with
      | lst g k =>
        refine ⟨_, _, rfl, fun _ => r.exP _ _ g, (fun z => by rw [e] at z; cases z), k.length, fun i d hi => ?_⟩
        obtain ⟨w, w1, w2⟩ := k.get hi
        rw [hc]; exact ⟨w, w1, w2, rfl⟩
    | bor d =>
      cases h2
      obtain ⟨rs, _⟩ := rs
      cases rs with
      | lst g k =>
        refine ⟨_, _, rfl, fun _ => r.exB _ _ g, (fun z => by rw [e] at z; cases z), k.length, fun i d hi => ?_⟩
        obtain ⟨w, w1, w2⟩ := k.get hi
        rw [hc]; exact ⟨w, w1, bor2 w2⟩
    | own ys =>
      cases h2
      obtain ⟨a, vs, e1, _, e3, k⟩ := rs
      refine ⟨a, vs, e1, fun _ => e3, (fun z => by rw [e] at z; cases z), k.length, fun i d hi => ?_⟩
      obtain ⟨w, w1, w2⟩ := k.get hi
      rw [hc]; exact ⟨w, w1, w2, rfl⟩
    | odk kvs => cases h2
    | scr ns => exact absurd rfl (h3 ns)
  · rw [e] at e0
    have e1 := Option.some.inj e0
    subst e1
    cases s with
    | sh d =>
      cases h2
      obtain ⟨rs, _⟩ := rs
      cases rs with
      | tup g k =>
        refine ⟨_, _, rfl, (fun z => by rw [e] at z; cases z), fun _ => r.exP _ _ g, k.length, fun i d hi => ?_⟩
        obtain ⟨w, w1, w2⟩ := k.get hi
        rw [hc]; exact ⟨w, w1, w2, rfl⟩
    | bor d =>
      cases h2
      obtain ⟨rs, _⟩ := rs
      cases rs with
      | tup g k =>
        refine ⟨_, _, rfl, (fun z => by rw [e] at z; cases z), fun _ => r.exB _ _ g, k.length, fun i d hi => ?_⟩
        obtain ⟨w, w1, w2⟩ := k.get hi
        rw [hc]; exact ⟨w, w1, bor2 w2⟩
    | own ys => cases h2
    | odk kvs => cases h2
    | scr ns => exact absurd rfl (h3 ns)
theorem in_app {as t1 t2 : List Addr} : ∀ a ∈ as, a ∈ as ++ (t1 ++ t2) := fun a h => List.mem_append_left _ h
theorem in_app1 {as t1 : List Addr} : ∀ a ∈ as, a ∈ as ++ t1 := fun a h => List.mem_append_left _ h
end

/-! ### numbers and texts -/
def BIG : Nat := 2 ^ 400000
theorem big_of {n k : Nat} (h : n < 2 ^ k) (hk : k ≤ 400000) : n < BIG := Nat.lt_of_lt_of_le h (Nat.pow_le_pow_right (by decide) hk)
def MOk (i j : Int) : Prop := i.natAbs < BIG ∧ j.natAbs < BIG
theorem MOk.w {i j : Int} (h : MOk i j) : CMulW i j := wide_mul (a := 400000) (b := 400000) h.1 h.2 (by omega) (by omega) (by omega)
def DOk (j : Int) : Prop := 0 < j ∧ j < 2 ^ 1000
theorem DOk.w {i j : Int} (h : DOk j) : CDivW i j := wide_div (b := 1000) h.1 (by have := h.1; have := h.2; omega) (by omega) (by omega)
def kAdd : Vl → Vl → En → DK → Prop := fun va vb env Q => match dat env va, dat env vb with
  | some (.int i), some (.int j) => Q (.tmp (.sh (.int (i + j)))) env
  | some (.str s), some (.str t) => s.length + t.length ≤ sizeLine ∧ Q (.tmp (.sh (.str (s ++ t)))) env
  | some (.list xs), some (.list ys) => perm env va = true ∧ perm env vb = true ∧ xs.length + ys.length ≤ sizeLine ∧ Q (.tmp (.own (xs ++ ys))) env
  | _, _ => False
def kInt (P : Int → Int → Prop) (f : Int → Int → PyData) : Vl → Vl → En → DK → Prop := fun va vb env Q => match dat env va, dat env vb with
  | some (.int i), some (.int j) => P i j ∧ Q (.tmp (.sh (f i j))) env
  | _, _ => False
def kMul : Vl → Vl → En → DK → Prop := fun va vb env Q => match dat env va, dat env vb with
  | some (.int i), some (.int j) => MOk i j ∧ Q (.tmp (.sh (.int (i * j)))) env
  | some (.list xs), some (.int j) => perm env va = true ∧ 0 ≤ j ∧ j < 2 ^ 62 ∧ xs.length * j.toNat ≤ sizeLine ∧ Q (.tmp (.own (List.replicate j.toNat xs).flatten)) env
  | _, _ => False
theorem mono_add : MonoK2 kAdd := fun a b n Q Q' hq h => by
  unfold kAdd at h ⊢
  split at h
  · exact hq _ _ h
  · exact ⟨h.1, hq _ _ h.2⟩
  · exact ⟨h.1, h.2.1, h.2.2.1, hq _ _ h.2.2.2⟩
  · exact h
theorem mono_kInt {P f} : MonoK2 (kInt P f) := fun a b n Q Q' hq h => by
  unfold kInt at h ⊢
  split at h
  · exact ⟨h.1, hq _ _ h.2⟩
  · exact h
theorem mono_mul : MonoK2 kMul := fun a b n Q Q' hq h => by
  unfold kMul at h ⊢
  split at h
  · exact ⟨h.1, hq _ _ h.2⟩
  · exact ⟨h.1, h.2.1, h.2.2.1, h.2.2.2.1, hq _ _ h.2.2.2.2⟩
  · exact h
theorem ok_int {K : PySem.W.Frag} {C : Ct} {P : Int → Int → Prop} {f : Int → Int → PyData} {R : Int → Int → Prop} {g : Int → Int → V} (hP : ∀ i j, P i j → R i j) (hf : ∀ H i j, Rp H (g i j) (f i j)) : Ok2 K C (rI R g) (kInt P f) :=
  fun σ HP H env as t1 t2 va vb x y Qd Q r qa qb h k => by
    unfold kInt at h
    split at h
    · rename_i i j e1 e2
      have a := r.rp qa e1
      have b := r.rp qb e2
      cases a; cases b
      exact ⟨i, j, rfl, rfl, hP i j h.1, (k _ _ h.2).sh r in_app (hf HP i j)⟩
    · exact h.elim
theorem ok_int0 {K : PySem.W.Frag} {C : Ct} {f : Int → Int → PyData} {g : Int → Int → V} (hf : ∀ H i j, Rp H (g i j) (f i j)) : Ok2 K C (rI0 g) (kInt (fun _ _ => True) f) :=
  fun σ HP H env as t1 t2 va vb x y Qd Q r qa qb h k => by
    obtain ⟨i, j, e1, e2, _, q⟩ := ok_int (K := K) (C := C) (R := fun _ _ => True) (fun _ _ z => z) hf σ HP H env as t1 t2 va vb x y Qd Q r qa qb h k
    exact ⟨i, j, e1, e2, q⟩
theorem ok_add {K : PySem.W.Frag} {C : Ct} : Ok2 K C (fun x y H Q => (rI0 fun i j => .int (i + j)) x y H Q ∨ ((∃ i j, x = V.str i ∧ y = V.str j ∧ i.length + j.length ≤ sizeLine ∧ Q (.str (i ++ j)) H) ∨ rCat x y H Q)) kAdd :=
  fun σ HP H env as t1 t2 va vb x y Qd Q r qa qb h k => by
    unfold kAdd at h
    split at h
    · rename_i i j e1 e2
      have a := r.rp qa e1
      have b := r.rp qb e2
      cases a; cases b
      exact .inl ⟨i, j, rfl, rfl, (k _ _ h).sh r in_app (.int _)⟩
    · rename_i s t e1 e2
      have a := r.rp qa e1
      have b := r.rp qb e2
      cases a; cases b
      exact .inr (.inl ⟨s, t, rfl, rfl, h.1, (k _ _ h.2).sh r in_app (.str _)⟩)
    · rename_i xs ys e1 e2
      obtain ⟨pa, pb, hz, hq⟩ := h
      obtain ⟨a, vs, rfl, ha, ra⟩ := r.kids qa e1 pa
      obtain ⟨b, ws, rfl, hb, rb⟩ := r.kids qb e2 pb
      exact .inr (.inr ⟨a, b, vs, ws, rfl, rfl, ha, hb, by rw [ra.length, rb.length]; exact hz, fun p hp => (k _ _ hq).own r in_app hp (ra.append rb)⟩)
    · exact h.elim
theorem ok_mul {K : PySem.W.Frag} {C : Ct} : Ok2 K C (fun x y H Q => rI CMulW (fun i j => .int (i * j)) x y H Q ∨ rRep x y H Q) kMul :=
  fun σ HP H env as t1 t2 va vb x y Qd Q r qa qb h k => by
    unfold kMul at h
    split at h
    · rename_i i j e1 e2
      have a := r.rp qa e1
      have b := r.rp qb e2
      cases a; cases b
      exact .inl ⟨i, j, rfl, rfl, h.1.w, (k _ _ h.2).sh r in_app (.int _)⟩
    · rename_i xs j e1 e2
      obtain ⟨pa, h0, h1, hz, hq⟩ := h
      obtain ⟨a, vs, rfl, ha, ra⟩ := r.kids qa e1 pa
      have b := r.rp qb e2
      cases b
      exact .inr ⟨a, j, vs, rfl, rfl, ha, by omega, by omega, by rw [ra.length]; exact hz, fun p hp => (k _ _ hq).own r in_app hp (ra.rep _)⟩
    · exact h.elim
/-- ** of great numbers -/
def CPowW (i j : Int) : Prop := 0 ≤ j ∧ j ≤ 4 ∧ i.natAbs < 2 ^ 1000 ∨ CPow i j
theorem op_powW {X : Cx} : OpR X (binaryOp .Pow) (rI CPowW fun i j => .int (i ^ j.toNat)) := opI fun i j _ _ _ _ _ hc q => by
  rcases hc with ⟨h0, h1, h2⟩ | hc
  · refine PyProof.Rows.pow_int h0 ?_ q
    have hb : Builtin.Int.intBits i ≤ i.natAbs.log2 + 1 := by
      unfold Builtin.Int.intBits
      split <;> omega
    have hl : i.natAbs.log2 < 1000 := PySem.Flt.log2_lt_of (by omega) h2
    have hc : (Builtin.Int.intBits i : Int) ≤ 1000 := by omega
    have hm : (Builtin.Int.intBits i : Int) * j ≤ 1000 * 4 := Int.mul_le_mul hc h1 h0 (by omega)
    exact Int.le_trans hm (by decide)
  · exact PyProof.Rows.pow_int_small hc.1 hc.2.1 hc.2.2 q
section
variable {X : Cx} {C : Ct} {W : WX} {a b : Expr} {ta tb : DE} {pos : Pos}
abbrev dAdd (ta tb : DE) : DE := d2 ta tb kAdd
theorem do_add (ha : DP X C W a ta) (hb : DP X C W b tb) : DP X C W (.BinOp a .Add b pos) (dAdd ta tb) := dp_op (op_add.or (op_add_str.or op_cat)) ok_add mono_add ha hb
abbrev dSub (ta tb : DE) : DE := d2 ta tb (kInt (fun _ _ => True) fun i j => .int (i - j))
theorem do_sub (ha : DP X C W a ta) (hb : DP X C W b tb) : DP X C W (.BinOp a .Sub b pos) (dSub ta tb) := dp_op op_sub (ok_int0 fun _ _ _ => .int _) mono_kInt ha hb
abbrev dMul (ta tb : DE) : DE := d2 ta tb kMul
theorem do_mul (ha : DP X C W a ta) (hb : DP X C W b tb) : DP X C W (.BinOp a .Mult b pos) (dMul ta tb) := dp_op (op_mulW.or op_rep) ok_mul mono_mul ha hb
abbrev dMod (ta tb : DE) : DE := d2 ta tb (kInt (fun _ j => 0 < j) fun i j => .int (i % j))
theorem do_mod (ha : DP X C W a ta) (hb : DP X C W b tb) : DP X C W (.BinOp a .Mod b pos) (dMod ta tb) := dp_op op_mod (ok_int (fun _ _ h => h) fun _ _ _ => .int _) mono_kInt ha hb
abbrev dFdiv (ta tb : DE) : DE := d2 ta tb (kInt (fun _ j => DOk j) fun i j => .int (i / j))
theorem do_fdiv (ha : DP X C W a ta) (hb : DP X C W b tb) : DP X C W (.BinOp a .FloorDiv b pos) (dFdiv ta tb) := dp_op op_fdivW (ok_int (fun _ _ h => h.w) fun _ _ _ => .int _) mono_kInt ha hb
abbrev dPow (ta tb : DE) : DE := d2 ta tb (kInt CPowW fun i j => .int (i ^ j.toNat))
theorem do_pow (ha : DP X C W a ta) (hb : DP X C W b tb) : DP X C W (.BinOp a .Pow b pos) (dPow ta tb) := dp_op op_powW (ok_int (fun _ _ h => h) fun _ _ _ => .int _) mono_kInt ha hb
abbrev dLt (ta tb : DE) : DE := d2 ta tb (kInt (fun _ _ => True) fun i j => .bool (decide (i < j)))
theorem do_lt (ha : DP X C W a ta) (hb : DP X C W b tb) : DP X C W (.Compare a [.Lt] [b] pos) (dLt ta tb) := dp_cmp op_lt (ok_int0 fun _ _ _ => .bl _) mono_kInt ha hb (nomark _)
abbrev dLe (ta tb : DE) : DE := d2 ta tb (kInt (fun _ _ => True) fun i j => .bool (decide (i ≤ j)))
theorem do_le (ha : DP X C W a ta) (hb : DP X C W b tb) : DP X C W (.Compare a [.LtE] [b] pos) (dLe ta tb) := dp_cmp op_le (ok_int0 fun _ _ _ => .bl _) mono_kInt ha hb (nomark _)
abbrev dGt (ta tb : DE) : DE := d2 ta tb (kInt (fun _ _ => True) fun i j => .bool (decide (j < i)))
theorem do_gt (ha : DP X C W a ta) (hb : DP X C W b tb) : DP X C W (.Compare a [.Gt] [b] pos) (dGt ta tb) := dp_cmp op_gt (ok_int0 fun _ _ _ => .bl _) mono_kInt ha hb (nomark _)
abbrev dGe (ta tb : DE) : DE := d2 ta tb (kInt (fun _ _ => True) fun i j => .bool (decide (j ≤ i)))
theorem do_ge (ha : DP X C W a ta) (hb : DP X C W b tb) : DP X C W (.Compare a [.GtE] [b] pos) (dGe ta tb) := dp_cmp op_ge (ok_int0 fun _ _ _ => .bl _) mono_kInt ha hb (nomark _)
end

/-! ### equality -/
/-- == of data -/
def eqD (d e : PyData) : Option Bool := match d, e with
  | .int i, .int j => some (decide (i = j))
  | .str i, .str j => some (decide (i = j))
  | .bool i, .bool j => some (decide (i = j))
  | d, e => if SeqAt.shaped d = true ∧ SeqAt.shaped e = true then some (PyData.eqv d e) else none
def kEq (neg : Bool) : Vl → Vl → En → DK → Prop := fun va vb env Q => ∃ d e c, dat env va = some d ∧ dat env vb = some e ∧ eqD d e = some c ∧ Q (.tmp (.sh (.bool (neg != c)))) env
theorem mono_eq {neg} : MonoK2 (kEq neg) := fun a b n Q Q' hq ⟨d, e, c, h1, h2, h3, h4⟩ => ⟨d, e, c, h1, h2, h3, hq _ _ h4⟩
theorem ok_eq {K : PySem.W.Frag} {C : Ct} {neg : Bool} {r1 r2 : R2} (h1 : ∀ x y H Q, L2.scal x y = true → Q (.bl (neg != decide (x = y))) H → r1 x y H Q)
    (h2 : ∀ x y H Q d e, Dp K H x d → Dp K H y e → SeqAt.shaped d = true → SeqAt.shaped e = true → Q (.bl (neg != PyData.eqv d e)) H → r2 x y H Q) : Ok2 K C (fun x y H Q => r1 x y H Q ∨ r2 x y H Q) (kEq neg) :=
  fun σ HP H env as t1 t2 va vb x y Qd Q r qa qb h k => by
    obtain ⟨d, e, c, e1, e2, e3, hq⟩ := h
    have a := r.rp qa e1
    have b := r.rp qb e2
    have q : Q (.bl (neg != c)) H := (k _ _ hq).sh r in_app (.bl _)
    unfold eqD at e3
    split at e3
    · cases a; cases b
      have e4 := Option.some.inj e3
      refine .inl (h1 _ _ _ _ rfl ?_)
      rw [show decide (V.int _ = V.int _) = c by rw [← e4]; simp]
      exact q
    · cases a; cases b
      have e4 := Option.some.inj e3
      refine .inl (h1 _ _ _ _ rfl ?_)
      rw [show decide (V.str _ = V.str _) = c by rw [← e4]; simp]
      exact q
    · cases a; cases b
      have e4 := Option.some.inj e3
      refine .inl (h1 _ _ _ _ rfl ?_)
      rw [show decide (V.bl _ = V.bl _) = c by rw [← e4]; simp]
      exact q
    · split at e3
      · rename_i sh
        have e4 := Option.some.inj e3
        exact .inr (h2 _ _ _ _ d e (a.dp (SeqAt.canLay_of_shaped sh.1)) (b.dp (SeqAt.canLay_of_shaped sh.2)) sh.1 sh.2 (by rw [e4]; exact q))
      · cases e3
section
variable {X : Cx} {C : Ct} {W : WX} {a b : Expr} {ta tb : DE} {pos : Pos}
abbrev dEq (ta tb : DE) : DE := d2 ta tb (kEq false)
abbrev dNe (ta tb : DE) : DE := d2 ta tb (kEq true)
theorem do_eq {k : Nat} (hr : Room k X.A) (ha : DP X C W a ta) (hb : DP X C W b tb) : DP X C W (.Compare a [.Eq] [b] pos) (dEq ta tb) :=
  dp_cmp (op_eq.or (op_eqD hr.units)) (ok_eq (fun x y H Q h q => ⟨h, by simpa using q⟩) fun x y H Q d e h1 h2 h3 h4 q => ⟨d, e, h1, h2, h3, h4, by simpa using q⟩) mono_eq ha hb (nomark _)
theorem do_ne {k : Nat} (hr : Room k X.A) (ha : DP X C W a ta) (hb : DP X C W b tb) : DP X C W (.Compare a [.NotEq] [b] pos) (dNe ta tb) :=
  dp_cmp (op_ne.or (op_neD hr.units)) (ok_eq (fun x y H Q h q => ⟨h, by simpa using q⟩) fun x y H Q d e h1 h2 h3 h4 q => ⟨d, e, h1, h2, h3, h4, by simpa using q⟩) mono_eq ha hb (nomark _)
end
end L3

/-! L3D: sharing, arguments, displays, subscripts, slices, built-ins, tests. -/
namespace L3
open PySem L2

/-! ### what becomes data for good -/
def share (v : Vl) (env : En) : Option (PyData × En) := match v with
  | .tmp (.sh d) => some (d, env)
  | .tmp (.own xs) => some (.list xs, env)
  | .tmp (.odk kvs) => some (.dict kvs, env)
  | .tmp (.bor d) => if scal d = true then some (d, env) else none
  | .tmp (.scr _) => none
  | .loc i => match env[i]? with
    | some (some (.own xs)) => some (.list xs, env.set i (some (.sh (.list xs))))
    | some (some (.odk kvs)) => some (.dict kvs, env.set i (some (.sh (.dict kvs))))
    | _ => none
def shareAll : List Vl → En → Option (List PyData × En)
  | [], env => some ([], env)
  | v :: vs, env => (share v env).bind fun p => (shareAll vs p.2).map fun q => (p.1 :: q.1, q.2)
section
variable {K : PySem.W.Frag} {C : Ct} {W : WX} {HP HP' H H' : Hp} {σ : L2.St} {env env' : En} {as ts t1 t2 : List Addr} {s : Sl} {v x y : V} {va vb : Vl} {t : List Addr}
/-- the object at a, own so far, is frozen -/
theorem Stp.freeze {a : Addr} {o : HO} {bs cs : List Addr} (h : H a = some o) (hn : HP a = none) (ha : a ∈ cs) (hb : ∀ b ∈ bs, b ∈ cs) : Stp HP H cs (upd HP a o) H bs :=
  ⟨Same.put hn, fun _ _ e _ => e, fun b z => .inl (hb b z), fun b u e => by
    by_cases z : b = a
    · rw [z]; exact .inr (.inr ha)
    · rw [upd_ne z] at e; exact .inl e, fun _ z => z⟩
theorem same_upd {a : Addr} {o : HO} (hs : Same HP H) (h : H a = some o) : Same (upd HP a o) H := fun b u e => by
  by_cases z : b = a
  · subst z; rw [upd_same] at e; cases e; exact h
  · rw [upd_ne z] at e; exact hs b u e
theorem Rel.freezeT {a : Addr} {o : HO} (r : Rel K C HP σ H env as (a :: t2)) (h : H a = some o) : Rel K C (upd HP a o) σ H env as t2 := by
  have nd := List.nodup_append.mp r.nd
  have hn := (r.own a (by simp)).1
  refine ⟨same_upd r.exP h, r.exB, r.rep.frame (Same.put hn) fun _ _ => rfl, List.nodup_append.mpr ⟨nd.1, (List.nodup_cons.mp nd.2.1).2, fun b hb c hc => nd.2.2 b hb c (List.mem_cons_of_mem _ hc)⟩, fun b hb => ?_, r.pin⟩
  have q := r.own b (by rcases List.mem_append.mp hb with z | z <;> simp [z])
  have z : b ≠ a := fun z => by
    subst z
    rcases List.mem_append.mp hb with w | w
    · exact nd.2.2 b w b (by simp) rfl
    · exact (List.nodup_cons.mp nd.2.1).1 w
  exact ⟨by rw [upd_ne z]; exact q.1, q.2⟩
theorem Rel.freezeL {i : Nat} {a : Addr} {o : HO} {pre post : List Addr} (r : Rel K C HP σ H env (pre ++ ([a] ++ post)) ts) (h : H a = some o)
    (k : RepE K C (upd HP a o) H env' σ (pre ++ ([] ++ post))) : Rel K C (upd HP a o) σ H env' (pre ++ ([] ++ post)) ts := by
  have sub : (pre ++ ([] ++ post) ++ ts).Sublist (pre ++ ([a] ++ post) ++ ts) := (List.Sublist.append (List.Sublist.append (List.Sublist.refl _) (List.Sublist.append (List.nil_sublist _) (List.Sublist.refl _))) (List.Sublist.refl _))
  refine ⟨same_upd r.exP h, r.exB, k, r.nd.sublist sub, fun b hb => ?_, r.pin⟩
  have q := r.own b (sub.mem hb)
  have z : b ≠ a := fun z => by
    subst z
    have nd := r.nd
    have e : pre ++ ([b] ++ post) ++ ts = pre ++ b :: (post ++ ts) := by simp
    rw [e] at nd
    have nd2 := List.nodup_append.mp nd
    have hb' : b ∈ pre ++ (post ++ ts) := by simpa using hb
    rcases List.mem_append.mp hb' with w | w
    · exact nd2.2.2 b w b (by simp) rfl
    · exact (List.nodup_cons.mp nd2.2.1).1 w
  exact ⟨by rw [upd_ne z]; exact q.1, q.2⟩
theorem Rel.share {d : PyData} (r : Rel K C HP σ H env as (t1 ++ t2)) (q : RepV K C HP H σ va x t1) (e : L3.share va env = some (d, env')) :
    ∃ HP' as', Rel K C HP' σ H env' as' t2 ∧ Rp HP' x d ∧ Stp HP H (as ++ (t1 ++ t2)) HP' H (as' ++ t2) := by
  have plain : ∀ {d' : PyData}, Rp HP x d' → t1 = [] → d' = d → env = env' → ∃ HP' as', Rel K C HP' σ H env' as' t2 ∧ Rp HP' x d ∧ Stp HP H (as ++ (t1 ++ t2)) HP' H (as' ++ t2) := fun {d'} g e1 e2 e3 => by
    subst e1 e2 e3
    exact ⟨HP, as, r, g, Stp.refl⟩
  cases va with
  | tmp s => cases s with
    | sh d' =>
      have e' := Option.some.inj e
      cases e'
      exact plain q.1 q.2 rfl rfl
    | bor d' =>
      unfold L3.share at e
      dsimp only at e
      split at e
      · rename_i z
        cases Option.some.inj e
        exact plain (q.1.scal z) q.2 rfl rfl
      · cases e
    | own xs =>
      cases Option.some.inj e
      obtain ⟨a, vs, rfl, rfl, h3, h4⟩ := q
      have hn := (r.own a (by simp)).1
      exact ⟨upd HP a (.lst vs), as, r.freezeT h3, .lst upd_same (h4.mono (Same.put hn)), Stp.freeze h3 hn (by simp) fun b hb => by
        rcases List.mem_append.mp hb with z | z <;> simp [z]⟩
    | odk xs =>
      cases Option.some.inj e
      obtain ⟨a, vs, rfl, rfl, h3, h4⟩ := q
      have hn := (r.own a (by simp)).1
      exact ⟨upd HP a (.dK vs), as, r.freezeT h3, .dct upd_same (h4.mono (Same.put hn)), Stp.freeze h3 hn (by simp) fun b hb => by
        rcases List.mem_append.mp hb with z | z <;> simp [z]⟩
    | scr ns => cases e
  | loc i =>
    obtain ⟨q1, rfl⟩ := q
    cases hi : env[i]? with
    | none => simp [L3.share, hi] at e
    | some o => cases o with
      | none => simp [L3.share, hi] at e
      | some s =>
        obtain ⟨w, pre, a1, post, h1, h2, h3, h4⟩ := r.rep.at i hi
        rw [q1] at h1; cases h1
        have es : σ.set i (some x) = σ := by
          have hl := (List.getElem?_eq_some_iff.mp q1)
          obtain ⟨hl, hv⟩ := hl
          rw [← hv]; exact List.set_getElem_self hl
        cases s with
        | sh d' => simp [L3.share, hi] at e
        | bor d' => simp [L3.share, hi] at e
        | scr d' => simp [L3.share, hi] at e
        | own xs =>
          simp [L3.share, hi] at e
          obtain ⟨e1, e2⟩ := e
          subst e1 e2
          obtain ⟨a, vs, rfl, rfl, g3, g4⟩ := h3
          subst h2
          have hn := (r.own a (by simp)).1
          have k := h4 (upd HP a (.lst vs)) H (some (.sh (.list xs))) (some (.ref a)) [] (Same.put hn) (fun _ _ => rfl) ⟨.lst upd_same (g4.mono (Same.put hn)), rfl⟩
          rw [es] at k
          exact ⟨upd HP a (.lst vs), pre ++ ([] ++ post), r.freezeL (i := i) g3 k, .lst upd_same (g4.mono (Same.put hn)), Stp.freeze g3 hn (by simp) fun b hb => by
            simp at hb ⊢
            rcases hb with z | z | z <;> simp [z]⟩
        | odk xs =>
          simp [L3.share, hi] at e
          obtain ⟨e1, e2⟩ := e
          subst e1 e2
          obtain ⟨a, vs, rfl, rfl, g3, g4⟩ := h3
          subst h2
          have hn := (r.own a (by simp)).1
          have k := h4 (upd HP a (.dK vs)) H (some (.sh (.dict xs))) (some (.ref a)) [] (Same.put hn) (fun _ _ => rfl) ⟨.dct upd_same (g4.mono (Same.put hn)), rfl⟩
          rw [es] at k
          exact ⟨upd HP a (.dK vs), pre ++ ([] ++ post), r.freezeL (i := i) g3 k, .dct upd_same (g4.mono (Same.put hn)), Stp.freeze g3 hn (by simp) fun b hb => by
            simp at hb ⊢
            rcases hb with z | z | z <;> simp [z]⟩
theorem Rel.shares : ∀ {vals : List Vl} {vs : List V} {ds : List PyData} {HP : Hp} {env env' : En} {as t1 t2 : List Addr}, Rel K C HP σ H env as (t1 ++ t2) → RepVs K C HP H σ vals vs t1 → L3.shareAll vals env = some (ds, env') →
    ∃ HP' as', Rel K C HP' σ H env' as' t2 ∧ RpAll HP' vs ds ∧ Stp HP H (as ++ (t1 ++ t2)) HP' H (as' ++ t2)
  | [], vs, ds, HP, env, env', as, t1, t2, r, q, e => by
    obtain ⟨rfl, rfl⟩ := q
    cases Option.some.inj e
    exact ⟨HP, as, r, .nil, Stp.refl⟩
  | v :: vals, vs, ds, HP, env, env', as, t1, t2, r, q, e => by
    obtain ⟨x, w, u1, u2, rfl, rfl, q1, q2⟩ := q
    unfold L3.shareAll at e
    cases e1 : L3.share v env with
    | none => rw [e1] at e; cases e
    | some p =>
      obtain ⟨d, env1⟩ := p
      rw [e1] at e
      dsimp only [Option.bind] at e
      cases e2 : L3.shareAll vals env1 with
      | none => rw [e2] at e; cases e
      | some p2 =>
        obtain ⟨ds', env2⟩ := p2
        rw [e2] at e
        cases Option.some.inj e
        rw [List.append_assoc] at r
        obtain ⟨HP1, as1, r1, g1, x1⟩ := r.share q1 e1
        obtain ⟨HP2, as2, r2, g2, x2⟩ := Rel.shares (vals := vals) r1 (RepVs.frame x1.ex q2 fun _ _ => rfl) e2
        refine ⟨HP2, as2, r2, .cons (g1.mono x2.ex) g2, ?_⟩
        rw [List.append_assoc]
        exact x1.trans x2
end

/-! ### arguments -/
def daNil : DA := fun _ env Q => Q [] env
def daCons (ta : DE) (tr : DA) : DA := fun ex env Q => ta ex env fun v env1 => tr ex env1 fun vs env2 => Q (v :: vs) env2
section
variable {X : Cx} {C : Ct} {W : WX} {e : Expr} {es : List Expr} {ta : DE} {tr : DA}
theorem da_nil : DPA X C W [] daNil := ⟨pa_nil.imp fun σ H Q ⟨HP, env, as, R, h⟩ => h [] HP H as [] R (Stp.refl.less fun a ha => by simpa using ha) ⟨rfl, rfl⟩, fun _ _ _ _ _ _ hq h => hq _ _ h⟩
theorem da_cons (ha : DP X C W e ta) (hr : DPA X C W es tr) (hs : starEach (e :: es) X.env = (false, eval e X.env) :: starEach es X.env := by rfl) : DPA X C W (e :: es) (daCons ta tr) := by
  refine ⟨(pa_cons ha.run hr.run hs).imp fun σ H Q h => ?_, fun ex ex' env Q Q' he hq h => ha.mono ex ex' env _ _ he (fun v n h1 => hr.mono ex ex' n _ _ he (fun vs n2 h2 => hq _ _ h2) h1) h⟩
  obtain ⟨HP, env, as, R, h⟩ := h
  refine ⟨HP, env, as, R, ha.mono _ _ env _ _ (fun _ _ z => z) (fun va n h1 => ?_) h⟩
  intro x HP1 H1 as1 t1 R1 X1 V1
  refine ⟨HP1, n, as1, R1.nots, hr.mono _ _ n _ _ (fun e n z => z.imp X1 fun a ha => List.mem_append_left _ ha) (fun vs n2 h2 => ?_) h1⟩
  intro ys HP2 H2 as2 t2 R2 X2 V2
  obtain ⟨R3, st, X3⟩ := R1.pend X2 R2
  exact h2 (x :: ys) HP2 H2 as2 (t1 ++ t2) R3 (X1.trans X3) ⟨x, ys, t1, t2, rfl, rfl, V1.frame X2.ex st, V2⟩
end
/-- an operation on arguments -/
def OkN (K : PySem.W.Frag) (C : Ct) (r : List V → Hp → VK → Prop) (k : List Vl → En → DK → Prop) : Prop :=
  ∀ (σ : L2.St) (HP H : Hp) (env : En) (as ts : List Addr) (vals : List Vl) (vs : List V) (Qd : DK) (Q : VK), Rel K C HP σ H env as ts → RepVs K C HP H σ vals vs ts → k vals env Qd →
    (∀ val n, Qd val n → Po K C σ HP H (as ++ ts) Q val n) → r vs H Q
def MonoN (k : List Vl → En → DK → Prop) : Prop := ∀ a n Q Q', (∀ v n, Q v n → Q' v n) → k a n Q → k a n Q'
def dN (ta : DA) (k : List Vl → En → DK → Prop) : DE := fun ex env Q => ta ex env fun vals env1 => k vals env1 Q
theorem MonoA.dN {ta : DA} {k : List Vl → En → DK → Prop} (ma : MonoA ta) (mk : MonoN k) : MonoE (dN ta k) := fun ex ex' env Q Q' he hq h =>
  ma ex ex' env _ _ he (fun va n h1 => mk va n Q Q' hq h1) h
theorem liftN {K : PySem.W.Frag} {C : Ct} {W : WX} {ta : DA} {k : List Vl → En → DK → Prop} {r : List V → Hp → VK → Prop} {σ : L2.St} {H : Hp} {Q : VK} (ma : MonoA ta) (ok : OkN K C r k) (h : lift K C W (dN ta k) σ H Q) : liftA K C W ta σ H fun xs H1 => r xs H1 Q := by
  obtain ⟨HP, env, as, R, h⟩ := h
  refine ⟨HP, env, as, R, ma _ _ env _ _ (fun _ _ z => z) (fun va n h1 => ?_) h⟩
  intro x HP1 H1 as1 t1 R1 X1 V1
  exact ok σ HP1 H1 n as1 t1 va x _ Q R1 V1 h1 fun val m q v HP' H' as' ts' R' X' V' => q v HP' H' as' ts' R' (X1.trans X') V'

/-! ### displays -/
def kLst : List Vl → En → DK → Prop := fun vals env Q => ∃ ds env', shareAll vals env = some (ds, env') ∧ ds.length ≤ sizeLine ∧ Q (.tmp (.own ds)) env'
def kTup : List Vl → En → DK → Prop := fun vals env Q => ∃ ds env', shareAll vals env = some (ds, env') ∧ ds.length ≤ sizeLine ∧ Q (.tmp (.sh (.tuple ds))) env'
theorem mono_lst : MonoN kLst := fun a n Q Q' hq ⟨ds, e, h1, h2, h3⟩ => ⟨ds, e, h1, h2, hq _ _ h3⟩
theorem mono_tup : MonoN kTup := fun a n Q Q' hq ⟨ds, e, h1, h2, h3⟩ => ⟨ds, e, h1, h2, hq _ _ h3⟩
theorem ok_lst {K : PySem.W.Frag} {C : Ct} : OkN K C (fun xs H1 Q => xs.length ≤ sizeLine ∧ ∀ p, H1 p = none → Q (.ref p) (upd H1 p (.lst xs))) kLst :=
  fun σ HP H env as ts vals vs Qd Q r q ⟨ds, env', e, hz, hq⟩ k => by
    have r' : Rel K C HP σ H env as (ts ++ []) := by rw [List.append_nil]; exact r
    obtain ⟨HP1, as1, r1, g1, x1⟩ := r'.shares q e
    refine ⟨by rw [g1.length]; exact hz, fun p hp => ?_⟩
    have p1 := k _ _ hq
    have p2 : Po K C σ HP1 H as1 Q (.tmp (.own ds)) env' := fun v HP' H' as' ts' R' X' V' => p1 v HP' H' as' ts' R' (((x1.less (cs := as1) fun a ha => by simpa using ha).from (cs := as ++ ts) fun a ha => by simpa using ha).trans X') V'
    exact p2.own r1 (fun a ha => ha) hp g1
theorem ok_tup {K : PySem.W.Frag} {C : Ct} : OkN K C (fun xs H1 Q => xs.length ≤ sizeLine ∧ ∀ p, H1 p = none → Q (.ref p) (upd H1 p (.tup xs))) kTup :=
  fun σ HP H env as ts vals vs Qd Q r q ⟨ds, env', e, hz, hq⟩ k => by
    have r' : Rel K C HP σ H env as (ts ++ []) := by rw [List.append_nil]; exact r
    obtain ⟨HP1, as1, r1, g1, x1⟩ := r'.shares q e
    refine ⟨by rw [g1.length]; exact hz, fun p hp => ?_⟩
    have p1 := k _ _ hq
    have p2 : Po K C σ HP1 H as1 Q (.tmp (.sh (.tuple ds))) env' := fun v HP' H' as' ts' R' X' V' => p1 v HP' H' as' ts' R' (((x1.less (cs := as1) fun a ha => by simpa using ha).from (cs := as ++ ts) fun a ha => by simpa using ha).trans X') V'
    exact p2.tup r1 (fun a ha => ha) hp g1
section
variable {X : Cx} {C : Ct} {W : WX} {es : List Expr} {ta : DA} {pos : Pos}
abbrev dLst (ta : DA) : DE := dN ta kLst
abbrev dTup (ta : DA) : DE := dN ta kTup
theorem do_lst (h : DPA X C W es ta) : DP X C W (.List es pos) (dLst ta) := ⟨(pe_lst h.run).imp fun σ H Q q => liftN h.mono ok_lst q, h.mono.dN mono_lst⟩
theorem do_tup {k} (h : DPA X C W es ta) : DP X C W (.Tuple es k pos) (dTup ta) := ⟨(pe_tup h.run).imp fun σ H Q q => liftN h.mono ok_tup q, h.mono.dN mono_tup⟩
end

/-! ### subscripts -/
def ixOf (env : En) (va : Vl) (i : Int) : Option Vl := match slotOf env va with
  | some (.scr ns) => (atI ns i).map fun n => .tmp (.sh (.int n))
  | some s => match s.dat with
    | .list xs => (atI xs i).map fun d => .tmp (chS s d)
    | .tuple xs => (atI xs i).map fun d => .tmp (chS s d)
    | .str z => if z.length ≤ sizeLine then (atI z.cps.toList i).map fun c => .tmp (.sh (.str ⟨#[c]⟩)) else none
    | _ => none
  | none => none
def kIx : Vl → Vl → En → DK → Prop := fun va vb env Q => ∃ i w, dat env vb = some (.int i) ∧ ixOf env va i = some w ∧ Q w env
theorem mono_ix : MonoK2 kIx := fun a b n Q Q' hq ⟨i, w, h1, h2, h3⟩ => ⟨i, w, h1, h2, hq _ _ h3⟩
theorem atI_len {α β : Type} {xs : List α} {ys : List β} (hl : xs.length = ys.length) {i : Int} {d : β} (h : atI ys i = some d) : ∃ j : Nat, ys[j]? = some d ∧ ∀ w : α, xs[j]? = some w → atI xs i = some w := by
  unfold atI at h ⊢
  rw [← hl] at h
  cases e : ixN xs.length i with
  | none => rw [e] at h; cases h
  | some j =>
    rw [e] at h
    exact ⟨j, h, fun w hw => hw⟩
theorem dat_of_slot {env : En} {va : Vl} {s : Sl} (h : slotOf env va = some s) (hn : ∀ ns, s ≠ .scr ns) : dat env va = some s.dat := by
  cases va with
  | tmp s' =>
    cases h
    cases s <;> first | rfl | exact absurd rfl (hn _)
  | loc i =>
    unfold slotOf at h
    cases e : env[i]? with
    | none => simp [e] at h
    | some o =>
      simp [e] at h
      subst h
      cases s <;> simp [dat, e] <;> exact absurd rfl (hn _)
theorem ok_ix {K : PySem.W.Frag} {C : Ct} : Ok2 K C (fun x y H Q => rIxL K x y H Q ∨ (rIxT K x y H Q ∨ rIxS x y H Q)) kIx :=
  fun σ HP H env as t1 t2 va vb x y Qd Q r qa qb ⟨i, w, e1, e2, hq⟩ k => by
    have b := r.rp qb e1
    cases b
    unfold ixOf at e2
    cases hs : slotOf env va with
    | none => rw [hs] at e2; cases e2
    | some s =>
      rw [hs] at e2
      have fin : ∀ {u : V} {d : PyData}, w = .tmp (chS s d) → RepV K C HP H σ (ch env va d) u [] → Q u H := fun {u d} ew ru => by
        have ec : ch env va d = w := by unfold ch; rw [hs, ew]
        rw [ec] at ru
        exact (k _ _ hq) u HP H as [] r.nots (Stp.refl.less fun a ha => by simp at ha ⊢; exact .inl ha) ru
      have main : ∀ xs, (s.dat = .list xs ∨ s.dat = .tuple xs) → (∀ ns, s ≠ .scr ns) → (atI xs i).map (fun d => Vl.tmp (chS s d)) = some w → rIxL K x (.int i) H Q ∨ (rIxT K x (.int i) H Q ∨ rIxS x (.int i) H Q) := fun xs hd hn e3 => by
        have hdat := dat_of_slot hs hn
        cases e4 : atI xs i with
        | none => rw [e4] at e3; cases e3
        | some d =>
          rw [e4] at e3
          have ew : w = .tmp (chS s d) := (Option.some.inj e3).symm
          rcases hd with hd | hd
          · rw [hd] at hdat
            obtain ⟨a, vs, rfl, hl, _, len, get⟩ := r.child qa (.inl hdat)
            obtain ⟨j, h5, h6⟩ := atI_len (xs := vs) len e4
            obtain ⟨u, h7, h8⟩ := get j d h5
            exact .inl ⟨a, vs, i, u, rfl, rfl, SqL.of (hl hdat), h6 u h7, fin ew h8⟩
          · rw [hd] at hdat
            obtain ⟨a, vs, rfl, _, hl, len, get⟩ := r.child qa (.inr hdat)
            obtain ⟨j, h5, h6⟩ := atI_len (xs := vs) len e4
            obtain ⟨u, h7, h8⟩ := get j d h5
            exact .inr (.inl ⟨a, vs, i, u, rfl, rfl, SqT.of (hl hdat), h6 u h7, fin ew h8⟩)
      have text : ∀ z, s.dat = .str z → (∀ ns, s ≠ .scr ns) → (if z.length ≤ sizeLine then (atI z.cps.toList i).map fun c => Vl.tmp (.sh (.str ⟨#[c]⟩)) else none) = some w → rIxL K x (.int i) H Q ∨ (rIxT K x (.int i) H Q ∨ rIxS x (.int i) H Q) := fun z hd hn e3 => by
        have hdat := dat_of_slot hs hn
        rw [hd] at hdat
        have a := r.rp qa hdat
        cases a
        split at e3
        · rename_i hz
          cases e4 : atI z.cps.toList i with
          | none => rw [e4] at e3; cases e3
          | some c =>
            rw [e4] at e3
            have ew : w = .tmp (.sh (.str ⟨#[c]⟩)) := (Option.some.inj e3).symm
            subst ew
            exact .inr (.inr ⟨z, i, c, rfl, rfl, hz, e4, (k _ _ hq).sh r in_app (.str _)⟩)
        · cases e3
      cases s with
      | scr ns =>
        obtain ⟨a, rs⟩ := r.here qa hs
        obtain ⟨b, rfl, _, h3⟩ := rs
        dsimp only at e2
        cases e4 : atI ns i with
        | none => rw [e4] at e2; cases e2
        | some n =>
          rw [e4] at e2
          have ew : w = .tmp (.sh (.int n)) := (Option.some.inj e2).symm
          subst ew
          obtain ⟨j, h5, h6⟩ := atI_len (xs := ns.map V.int) (by rw [List.length_map]) e4
          have h3' : SqL K H b (ns.map V.int) := Same.seq r.exB h3
          exact .inl ⟨b, _, i, .int n, rfl, rfl, h3', h6 _ (by rw [List.getElem?_map, h5]; rfl), (k _ _ hq).sh r in_app (.int _)⟩
      | sh d =>
        have hn : ∀ ns, Sl.sh d ≠ .scr ns := fun _ q => nomatch q
        cases d <;> first | cases e2 | exact main _ (.inl rfl) hn e2 | exact main _ (.inr rfl) hn e2 | exact text _ rfl hn e2
      | bor d =>
        have hn : ∀ ns, Sl.bor d ≠ .scr ns := fun _ q => nomatch q
        cases d <;> first | cases e2 | exact main _ (.inl rfl) hn e2 | exact main _ (.inr rfl) hn e2 | exact text _ rfl hn e2
      | own xs => exact main xs (.inl rfl) (fun _ q => nomatch q) e2
      | odk kvs => cases e2
abbrev dIx (ta tb : DE) : DE := d2 ta tb kIx
theorem do_ix {X : Cx} {C : Ct} {W : WX} {a b : Expr} {ta tb : DE} {pos : Pos} (ha : DP X C W a ta) (hb : DP X C W b tb) (hs : PlainIx b := by exact fun _ _ => rfl) : DP X C W (.Subscript a b pos) (dIx ta tb) :=
  dp_ixR (ix_list.or (ix_tup.or ix_str)) ok_ix mono_ix ha hb hs

/-! ### slices -/
abbrev DO := DX → En → (Option Int → En → Prop) → Prop
def liftO (K : PySem.W.Frag) (C : Ct) (W : WX) (t : DO) : TO := fun σ H Q => ∃ HP env as, Rel K C HP σ H env as [] ∧ t (lX K C W σ HP H as) env fun o env' => ∀ HP' H' as', Rel K C HP' σ H' env' as' [] → Stp HP H as HP' H' as' → Q o H'
def MonoO (t : DO) : Prop := ∀ (ex ex' : DX) (env : En) (Q Q' : Option Int → En → Prop), (∀ e n, ex e n → ex' e n) → (∀ v n, Q v n → Q' v n) → t ex env Q → t ex' env Q'
structure DPO (X : Cx) (C : Ct) (W : WX) (e : Option Expr) (t : DO) : Prop where
  run : PO X e (liftO X.K C W t)
  mono : MonoO t
def doNo : DO := fun _ env Q => Q none env
def doPart (t : DE) : DO := fun ex env Q => t ex env fun v env' => ∃ i, dat env' v = some (.int i) ∧ Q (some i) env'
theorem PO.imp {X : Cx} {e : Option Expr} {t t' : TO} (h : PO X e t) (k : ∀ σ H Q, t' σ H Q → t σ H Q) : PO X e t' := ⟨fun pins s σ H Q I q => h.run pins s σ H Q I (k σ H Q q)⟩
theorem dp_no {X : Cx} {C : Ct} {W : WX} : DPO X C W none doNo := ⟨PO.imp po_none fun σ H Q ⟨HP, env, as, R, h⟩ => h HP H as R Stp.refl, fun _ _ _ _ _ _ hq h => hq _ _ h⟩
theorem dp_part {X : Cx} {C : Ct} {W : WX} {e : Expr} {t : DE} (h : DP X C W e t) : DPO X C W (some e) (doPart t) := by
  refine ⟨PO.imp (po_some h.run) fun σ H Q ⟨HP, env, as, R, q⟩ => ⟨HP, env, as, R, h.mono _ _ env _ _ (fun _ _ z => z) (fun va n h1 => ?_) q⟩, fun ex ex' env Q Q' he hq q => h.mono ex ex' env _ _ he (fun v n ⟨i, h1, h2⟩ => ⟨i, h1, hq _ _ h2⟩) q⟩
  intro x HP1 H1 as1 t1 R1 X1 V1
  obtain ⟨i, h2, h3⟩ := h1
  have a := R1.rp V1 h2
  cases a
  exact ⟨i, rfl, h3 HP1 H1 as1 R1.nots (X1.less fun a ha => List.mem_append_left _ ha)⟩
def cutL {α : Type} (xs : List α) (lo hi : Option Int) : List α := (xs.drop (HT.sIx xs.length 0 lo)).take (HT.sIx xs.length xs.length hi - HT.sIx xs.length 0 lo)
theorem RpAll.cut {H : Hp} {vs : List V} {ds : List PyData} (r : RpAll H vs ds) (lo hi : Option Int) : RpAll H (cutV vs lo hi) (cutL ds lo hi) := by
  unfold cutV cutL
  rw [r.length]
  exact (r.drop _).take _
def kSl : Vl → Option Int → Option Int → En → DK → Prop := fun va lo hi env Q => match dat env va with
  | some (.list xs) => perm env va = true ∧ Q (.tmp (.own (cutL xs lo hi))) env
  | some (.str z) => z.length ≤ sizeLine ∧ Q (.tmp (.sh (.str (cutS z lo hi)))) env
  | _ => False
def dSl (ta : DE) (tl th : DO) : DE := fun ex env Q => ta ex env fun va env1 => tl ex env1 fun lo env2 => th ex env2 fun hi env3 => kSl va lo hi env3 Q
theorem do_sl {X : Cx} {C : Ct} {W : WX} {e : Expr} {te : DE} {lo hi : Option Expr} {tl th : DO} {p2 pos : Pos} (he : DP X C W e te) (hl : DPO X C W lo tl) (hu : DPO X C W hi th) : DP X C W (.Subscript e (.Slice lo hi none p2) pos) (dSl te tl th) := by
  refine ⟨(pe_slice (sl_list.or sl_str) he.run hl.run hu.run).imp fun σ H Q h => ?_, fun ex ex' env Q Q' hx hq h => he.mono ex ex' env _ _ hx (fun va n h1 => hl.mono ex ex' n _ _ hx (fun l n2 h2 => hu.mono ex ex' n2 _ _ hx (fun u n3 h3 => ?_) h2) h1) h⟩
  · obtain ⟨HP, env, as, R, h⟩ := h
    refine ⟨HP, env, as, R, he.mono _ _ env _ _ (fun _ _ z => z) (fun va n h1 => ?_) h⟩
    intro x HP1 H1 as1 t1 R1 X1 V1
    refine ⟨HP1, n, as1, R1.nots, hl.mono _ _ n _ _ (fun e n z => z.imp X1 fun a ha => List.mem_append_left _ ha) (fun l n2 h2 => ?_) h1⟩
    intro HP2 H2 as2 R2 X2
    have X2' : Stp HP1 H1 as1 HP2 H2 (as2 ++ []) := by rw [List.append_nil]; exact X2
    obtain ⟨R3, st, X3⟩ := R1.pend X2' R2
    rw [List.append_nil] at R3 X3
    refine ⟨HP2, n2, as2, R2, hu.mono _ _ n2 _ _ (fun e n z => z.imp (X1.trans X3) fun a ha => List.mem_append_left _ ha) (fun u n3 h3 => ?_) h2⟩
    intro HP3 H3 as3 R4 X4
    have X4' : Stp HP2 H2 as2 HP3 H3 (as3 ++ []) := by rw [List.append_nil]; exact X4
    obtain ⟨R5, st2, X5⟩ := R3.pend X4' R4
    rw [List.append_nil] at R5 X5
    have V3 := (V1.frame X2.ex st).frame X4.ex st2
    have XX := (X1.trans X3).trans X5
    unfold kSl at h3
    split at h3
    · rename_i xs e1
      obtain ⟨pa, hq⟩ := h3
      obtain ⟨a, vs, rfl, ha, ra⟩ := R5.kids V3 e1 pa
      refine .inl ⟨a, vs, rfl, SqL.of ha, fun p hp => ?_⟩
      have p2 : Po _ C σ HP3 H3 (as3 ++ t1) Q _ _ := fun v HP' H' as' ts' R' X' V' => hq v HP' H' as' ts' R' (XX.trans X') V'
      exact p2.own R5 in_app1 hp (ra.cut _ _)
    · rename_i z e1
      have a := R5.rp V3 e1
      cases a
      have p2 : Po _ C σ HP3 H3 (as3 ++ t1) Q _ _ := fun v HP' H' as' ts' R' X' V' => h3.2 v HP' H' as' ts' R' (XX.trans X') V'
      exact .inr ⟨z, rfl, h3.1, p2.sh R5 in_app1 (.str _)⟩
    · exact h3.elim
  · unfold kSl at h3 ⊢
    split at h3
    · exact ⟨h3.1, hq _ _ h3.2⟩
    · exact ⟨h3.1, hq _ _ h3.2⟩
    · exact h3
end L3

/-! L3E: built-ins, tests, and, or, not, chains, in, is. -/
namespace L3
open PySem L2

/-! ### a built-in's call -/
section
variable {X : Cx} {C : Ct} {W : WX} {x : Str} {p pos : Pos} {e : Expr} {es : List Expr} {ta : DA} {id T : String} {r : List V → Hp → VK → Prop} {k : List Vl → En → DK → Prop}
theorem do_callB (hc : CallR X (.builtin id) r) (ok : OkN X.K C r k) (mk : MonoN k) (hm : X.mg x = none) (hv : bootBuiltins x = some (.builtin id)) (ha : DPA X C W (e :: es) ta) (hg : Gl X x := by rfl) (hn : x ≠ "__name__" := by decide) (hdb : (x == ("__debug__" : Str)) = false := by decide)
    (he : starEach (e :: es) X.env = (false, eval e X.env) :: starEach es X.env := by rfl) (hpl : (backTo pos (starEach es X.env)).any (·.1) = false := by rfl) : DP X C W (.Call (.Name x p) (e :: es) [] pos) (dN ta k) :=
  ⟨(pe_callB hc hg hm hv ha.run hn hdb he hpl).imp fun σ H Q q => liftN ha.mono ok q, ha.mono.dN mk⟩
theorem do_callTy (hc : CallR X (.type T) r) (ok : OkN X.K C r k) (mk : MonoN k) (hm : X.mg x = none) (hv : bootBuiltins x = some (.type T)) (ha : DPA X C W (e :: es) ta) (hg : Gl X x := by rfl) (hn : x ≠ "__name__" := by decide) (hdb : (x == ("__debug__" : Str)) = false := by decide)
    (he : starEach (e :: es) X.env = (false, eval e X.env) :: starEach es X.env := by rfl) (hpl : (backTo pos (starEach es X.env)).any (·.1) = false := by rfl) : DP X C W (.Call (.Name x p) (e :: es) [] pos) (dN ta k) :=
  ⟨(pe_callTy hc hg hm hv ha.run hn hdb he hpl).imp fun σ H Q q => liftN ha.mono ok q, ha.mono.dN mk⟩
end
section
variable {K : PySem.W.Frag} {C : Ct} {HP H : Hp} {σ : L2.St} {env : En} {as ts : List Addr} {vs : List V} {v w : Vl}
theorem RepVs.one (q : RepVs K C HP H σ [v] vs ts) : ∃ x, vs = [x] ∧ RepV K C HP H σ v x ts := by
  obtain ⟨x, r, t1, t2, rfl, rfl, h1, h2⟩ := q
  obtain ⟨rfl, rfl⟩ := h2
  exact ⟨x, rfl, by rw [List.append_nil]; exact h1⟩
theorem RepVs.two (q : RepVs K C HP H σ [v, w] vs ts) : ∃ x y t1 t2, vs = [x, y] ∧ ts = t1 ++ t2 ∧ RepV K C HP H σ v x t1 ∧ RepV K C HP H σ w y t2 := by
  obtain ⟨x, r, t1, t2, rfl, rfl, h1, h2⟩ := q
  obtain ⟨y, rfl, h3⟩ := h2.one
  exact ⟨x, y, t1, t2, rfl, rfl, h1, h3⟩
end
/-- len -/
def lenOf (env : En) (v : Vl) : Option Nat := match slotOf env v with
  | some (.scr ns) => some ns.length
  | some s => match s.dat with
    | .list xs => some xs.length
    | .tuple xs => some xs.length
    | .dict xs => some xs.length
    | .str z => if z.length ≤ sizeLine then some z.length else none
    | _ => none
  | none => none
def kLen : List Vl → En → DK → Prop := fun vals env Q => match vals with
  | [v] => ∃ n, lenOf env v = some n ∧ Q (.tmp (.sh (.int n))) env
  | _ => False
theorem mono_len : MonoN kLen := fun a n Q Q' hq h => by
  unfold kLen at h ⊢
  split at h
  · obtain ⟨n, h1, h2⟩ := h; exact ⟨n, h1, hq _ _ h2⟩
  · exact h
theorem RpKV.length {H : Hp} : ∀ {vs : List (Key × V)} {ds : List (PyData × PyData)}, RpKV H vs ds → vs.length = ds.length
  | _, _, .nil => rfl
  | _, _, .consI _ r => by rw [List.length_cons, List.length_cons, RpKV.length r]
  | _, _, .consS _ r => by rw [List.length_cons, List.length_cons, RpKV.length r]
theorem ok_len {K : PySem.W.Frag} {C : Ct} : OkN K C (fun xs H Q => (∃ x n, xs = [x] ∧ LenV K x H n ∧ Q (.int n) H) ∨ (∃ a kvs, xs = [V.ref a] ∧ H a = some (.dK kvs) ∧ Q (.int kvs.length) H)) kLen :=
  fun σ HP H env as ts vals vs Qd Q r q h k => by
    unfold kLen at h
    split at h
    · rename_i v
      obtain ⟨n, e, hq⟩ := h
      obtain ⟨x, rfl, q'⟩ := q.one
      have fin : Q (.int (n : Int)) H := (k _ _ hq).sh r in_app1 (.int _)
      unfold lenOf at e
      cases hs : slotOf env v with
      | none => rw [hs] at e; cases e
      | some s =>
        rw [hs] at e
        have main : (∀ ns, s ≠ .scr ns) → (match s.dat with
            | .list xs => some xs.length
            | .tuple xs => some xs.length
            | .dict xs => some xs.length
            | .str z => if z.length ≤ sizeLine then some z.length else none
            | _ => none) = some n → (∃ (x0 : V) (n : Nat), [x] = [x0] ∧ LenV K x0 H n ∧ Q (.int n) H) ∨ (∃ a kvs, [x] = [V.ref a] ∧ H a = some (.dK kvs) ∧ Q (.int kvs.length) H) := fun hn e2 => by
          have hd := dat_of_slot hs hn
          have a := r.rp q' hd
          generalize s.dat = d at e2 a
          cases d with
          | list xs =>
            cases a with
            | lst g h =>
              have e3 : xs.length = n := Option.some.inj e2
              exact Or.inl ⟨_, n, rfl, Or.inl ⟨_, SqL.of g, by rw [h.length, e3]⟩, fin⟩
          | tuple xs =>
            cases a with
            | tup g h =>
              have e3 : xs.length = n := Option.some.inj e2
              exact Or.inl ⟨_, n, rfl, Or.inr ⟨_, SqT.of g, by rw [h.length, e3]⟩, fin⟩
          | dict xs =>
            cases a with
            | dct g h =>
              have e3 : xs.length = n := Option.some.inj e2
              exact Or.inr ⟨_, _, rfl, g, by rw [h.length, e3]; exact fin⟩
          | str z =>
            cases a
            dsimp only at e2
            split at e2
            · rename_i hz
              have e3 : z.length = n := Option.some.inj e2
              exact Or.inl ⟨_, n, rfl, ⟨hz, e3.symm⟩, fin⟩
            · cases e2
          | none => cases e2
          | bool b => cases e2
          | int i => cases e2
        cases s with
        | scr ns =>
          obtain ⟨a, rs⟩ := r.here q' hs
          obtain ⟨b, rfl, _, h3⟩ := rs
          have e3 : ns.length = n := Option.some.inj e
          exact .inl ⟨_, n, rfl, .inl ⟨_, Same.seq r.exB h3, by rw [List.length_map, e3]⟩, fin⟩
        | sh d => exact main (fun _ q => nomatch q) e
        | bor d => exact main (fun _ q => nomatch q) e
        | own d => exact main (fun _ q => nomatch q) e
        | odk d => exact main (fun _ q => nomatch q) e
    · exact h.elim
/-- by the data of one argument -/
def kF1 (f : PyData → Option PyData) : List Vl → En → DK → Prop := fun vals env Q => match vals with
  | [v] => ∃ d z, dat env v = some d ∧ f d = some z ∧ Q (.tmp (.sh z)) env
  | _ => False
def kF2 (f : PyData → PyData → Option PyData) : List Vl → En → DK → Prop := fun vals env Q => match vals with
  | [v, w] => ∃ d e z, dat env v = some d ∧ dat env w = some e ∧ f d e = some z ∧ Q (.tmp (.sh z)) env
  | _ => False
theorem mono_F1 {f} : MonoN (kF1 f) := fun a n Q Q' hq h => by
  unfold kF1 at h ⊢
  split at h
  · obtain ⟨d, z, h1, h2, h3⟩ := h; exact ⟨d, z, h1, h2, hq _ _ h3⟩
  · exact h
theorem mono_F2 {f} : MonoN (kF2 f) := fun a n Q Q' hq h => by
  unfold kF2 at h ⊢
  split at h
  · obtain ⟨d, e, z, h1, h2, h3, h4⟩ := h; exact ⟨d, e, z, h1, h2, h3, hq _ _ h4⟩
  · exact h
theorem ok_F1 {K : PySem.W.Frag} {C : Ct} {f : PyData → Option PyData} {r : List V → Hp → VK → Prop} (h : ∀ H x d z Q, Rp H x d → f d = some z → (∀ v, (∀ HP, Rp HP v z) → Q v H) → r [x] H Q) : OkN K C r (kF1 f) :=
  fun σ HP H env as ts vals vs Qd Q rel q hk k => by
    unfold kF1 at hk
    split at hk
    · obtain ⟨d, z, e1, e2, hq⟩ := hk
      obtain ⟨x, rfl, q'⟩ := q.one
      exact h H x d z Q (rel.rp q' e1) e2 fun v hv => (k _ _ hq).sh rel in_app1 (hv HP)
    · exact hk.elim
theorem ok_F2 {K : PySem.W.Frag} {C : Ct} {f : PyData → PyData → Option PyData} {r : List V → Hp → VK → Prop} (h : ∀ H x y d e z Q, Rp H x d → Rp H y e → f d e = some z → (∀ v, (∀ HP, Rp HP v z) → Q v H) → r [x, y] H Q) : OkN K C r (kF2 f) :=
  fun σ HP H env as ts vals vs Qd Q rel q hk k => by
    unfold kF2 at hk
    split at hk
    · obtain ⟨d, e, z, e1, e2, e3, hq⟩ := hk
      obtain ⟨x, y, t1, t2, rfl, rfl, q1, q2⟩ := q.two
      exact h H x y d e z Q (rel.rp q1 e1) (rel.rp q2 e2) e3 fun v hv => (k _ _ hq).sh rel in_app1 (hv HP)
    · exact hk.elim
def fMax2 : PyData → PyData → Option PyData
  | .int i, .int j => some (.int (if j > i then j else i))
  | _, _ => none
def fMin2 : PyData → PyData → Option PyData
  | .int i, .int j => some (.int (if j < i then j else i))
  | _, _ => none
theorem ok_max2 {K : PySem.W.Frag} {C : Ct} : OkN K C (fun xs H Q => ∃ i j, xs = [V.int i, .int j] ∧ Q (.int (if j > i then j else i)) H) (kF2 fMax2) := ok_F2 fun H x y d e z Q a b h k => by
  unfold fMax2 at h
  split at h
  · cases a; cases b
    cases Option.some.inj h
    exact ⟨_, _, rfl, k _ fun _ => .int _⟩
  · cases h
theorem ok_min2 {K : PySem.W.Frag} {C : Ct} : OkN K C (fun xs H Q => ∃ i j, xs = [V.int i, .int j] ∧ Q (.int (if j < i then j else i)) H) (kF2 fMin2) := ok_F2 fun H x y d e z Q a b h k => by
  unfold fMin2 at h
  split at h
  · cases a; cases b
    cases Option.some.inj h
    exact ⟨_, _, rfl, k _ fun _ => .int _⟩
  · cases h
def fInt : PyData → Option PyData
  | .int i => some (.int i)
  | .bool b => some (.int (if b then 1 else 0))
  | .str s => if s.length ≤ 640 then (PySem.intText? s).map PyData.int else none
  | _ => none
theorem ok_int1 {K : PySem.W.Frag} {C : Ct} : OkN K C (fun xs H Q => ((∃ i, xs = [V.int i] ∧ Q (.int i) H) ∨ ∃ k, xs = [V.bl k] ∧ Q (.int (if k then 1 else 0)) H) ∨ (∃ a n, xs = [V.str a] ∧ PySem.intText? a = some n ∧ a.length ≤ 640 ∧ Q (.int n) H)) (kF1 fInt) := ok_F1 fun H x d z Q a h k => by
  unfold fInt at h
  split at h
  · cases a; cases Option.some.inj h
    exact .inl (.inl ⟨_, rfl, k _ fun _ => .int _⟩)
  · cases a; cases Option.some.inj h
    exact .inl (.inr ⟨_, rfl, k _ fun _ => .int _⟩)
  · cases a
    rename_i s
    split at h
    · rename_i hz
      cases e : PySem.intText? s with
      | none => rw [e] at h; cases h
      | some n =>
        rw [e] at h
        cases Option.some.inj h
        exact .inr ⟨s, n, rfl, e, hz, k _ fun _ => .int _⟩
    · cases h
  · cases h
def fStr : PyData → Option PyData
  | .int i => if i.natAbs.log2 < 1920 then some (.str (toString i)) else none
  | _ => none
theorem ok_str1 {K : PySem.W.Frag} {C : Ct} : OkN K C (fun xs H Q => ∃ i, xs = [V.int i] ∧ i.natAbs.log2 < 1920 ∧ Q (.str (toString i)) H) (kF1 fStr) := ok_F1 fun H x d z Q a h k => by
  unfold fStr at h
  split at h
  · cases a
    split at h
    · rename_i hz
      cases Option.some.inj h
      exact ⟨_, rfl, hz, k _ fun _ => .str _⟩
    · cases h
  · cases h
/-- the ints of a list -/
def intsD : List PyData → Option (List Int)
  | [] => some []
  | .int i :: r => (intsD r).map (i :: ·)
  | _ => none
theorem intsD_eq : ∀ {xs : List PyData} {ns : List Int}, intsD xs = some ns → xs = ns.map PyData.int
  | [], ns, h => by cases Option.some.inj h; rfl
  | .int i :: r, ns, h => by
    unfold intsD at h
    cases e : intsD r with
    | none => rw [e] at h; cases h
    | some ms =>
      rw [e] at h
      cases Option.some.inj h
      rw [intsD_eq e]; rfl
  | .none :: _, _, h => by cases h
  | .bool _ :: _, _, h => by cases h
  | .str _ :: _, _, h => by cases h
  | .list _ :: _, _, h => by cases h
  | .tuple _ :: _, _, h => by cases h
  | .dict _ :: _, _, h => by cases h
theorem intsD_map : ∀ ns : List Int, intsD (ns.map PyData.int) = some ns
  | [] => rfl
  | n :: ns => by rw [List.map_cons, intsD, intsD_map ns]; rfl
def blsD : List PyData → Option (List Bool)
  | [] => some []
  | .bool i :: r => (blsD r).map (i :: ·)
  | _ => none
theorem blsD_eq : ∀ {xs : List PyData} {ns : List Bool}, blsD xs = some ns → xs = ns.map PyData.bool
  | [], ns, h => by cases Option.some.inj h; rfl
  | .bool i :: r, ns, h => by
    unfold blsD at h
    cases e : blsD r with
    | none => rw [e] at h; cases h
    | some ms =>
      rw [e] at h
      cases Option.some.inj h
      rw [blsD_eq e]; rfl
  | .none :: _, _, h => by cases h
  | .int _ :: _, _, h => by cases h
  | .str _ :: _, _, h => by cases h
  | .list _ :: _, _, h => by cases h
  | .tuple _ :: _, _, h => by cases h
  | .dict _ :: _, _, h => by cases h
theorem blsD_map : ∀ ns : List Bool, blsD (ns.map PyData.bool) = some ns
  | [] => rfl
  | n :: ns => by rw [List.map_cons, blsD, blsD_map ns]; rfl
def fSum : PyData → Option PyData
  | .list xs => (intsD xs).map fun ns => .int ns.sum
  | _ => none
theorem ok_sum {K : PySem.W.Frag} {C : Ct} : OkN K C (rSum K) (kF1 fSum) := ok_F1 fun H x d z Q a h k => by
  unfold fSum at h
  split at h
  · rename_i xs
    cases e : intsD xs with
    | none => rw [e] at h; cases h
    | some ns =>
      rw [e] at h
      cases Option.some.inj h
      cases intsD_eq e
      cases a with
      | lst g r => exact ⟨_, ns, rfl, SqL.of (by rw [g, r.ints]), k _ fun _ => .int _⟩
  · cases h
def fAll : PyData → Option PyData
  | .list xs => (blsD xs).map fun ns => .bool (ns.all id)
  | _ => none
theorem ok_all {K : PySem.W.Frag} {C : Ct} : OkN K C (rAll K) (kF1 fAll) := ok_F1 fun H x d z Q a h k => by
  unfold fAll at h
  split at h
  · rename_i xs
    cases e : blsD xs with
    | none => rw [e] at h; cases h
    | some ns =>
      rw [e] at h
      cases Option.some.inj h
      cases blsD_eq e
      cases a with
      | lst g r => exact ⟨_, ns, rfl, SqL.of (by rw [g, r.bls]), k _ fun _ => .bl _⟩
  · cases h
/-- the greatest, the least of a list of ints -/
def maxI : List Int → Int
  | [] => 0
  | x :: r => r.foldl (fun a b => if b > a then b else a) x
def minI : List Int → Int
  | [] => 0
  | x :: r => r.foldl (fun a b => if b < a then b else a) x
theorem maxI_fold : ∀ (r : List Int) (x : Int), (r.foldl (fun a b => if b > a then b else a) x ∈ x :: r) ∧ ∀ y ∈ x :: r, y ≤ r.foldl (fun a b => if b > a then b else a) x
  | [], x => ⟨by simp, fun y h => by simp at h; simp [h]⟩
  | z :: r, x => by
    obtain ⟨h1, h2⟩ := maxI_fold r (if z > x then z else x)
    rw [List.foldl_cons]
    refine ⟨?_, fun y h => ?_⟩
    · rcases List.mem_cons.mp h1 with h | h
      · rw [h]; split <;> simp
      · simp [h]
    · have h3 := h2 _ (List.mem_cons_self)
      rcases List.mem_cons.mp h with rfl | h
      · refine Int.le_trans ?_ h3; split <;> omega
      · rcases List.mem_cons.mp h with rfl | h
        · refine Int.le_trans ?_ h3; split <;> omega
        · exact h2 y (List.mem_cons_of_mem _ h)
theorem minI_fold : ∀ (r : List Int) (x : Int), (r.foldl (fun a b => if b < a then b else a) x ∈ x :: r) ∧ ∀ y ∈ x :: r, r.foldl (fun a b => if b < a then b else a) x ≤ y
  | [], x => ⟨by simp, fun y h => by simp at h; simp [h]⟩
  | z :: r, x => by
    obtain ⟨h1, h2⟩ := minI_fold r (if z < x then z else x)
    rw [List.foldl_cons]
    refine ⟨?_, fun y h => ?_⟩
    · rcases List.mem_cons.mp h1 with h | h
      · rw [h]; split <;> simp
      · simp [h]
    · have h3 := h2 _ (List.mem_cons_self)
      rcases List.mem_cons.mp h with rfl | h
      · refine Int.le_trans h3 ?_; split <;> omega
      · rcases List.mem_cons.mp h with rfl | h
        · refine Int.le_trans h3 ?_; split <;> omega
        · exact h2 y (List.mem_cons_of_mem _ h)
theorem maxI_spec {ns : List Int} (h : 0 < ns.length) : maxI ns ∈ ns ∧ ∀ y ∈ ns, y ≤ maxI ns := by
  cases ns with
  | nil => simp at h
  | cons x r => exact maxI_fold r x
theorem minI_spec {ns : List Int} (h : 0 < ns.length) : minI ns ∈ ns ∧ ∀ y ∈ ns, minI ns ≤ y := by
  cases ns with
  | nil => simp at h
  | cons x r => exact minI_fold r x
theorem maxI_eq {ns : List Int} {m : Int} (h : m ∈ ns) (k : ∀ y ∈ ns, y ≤ m) : maxI ns = m := by
  have s := maxI_spec (List.length_pos_of_mem h)
  have := k _ s.1; have := s.2 _ h; omega
theorem minI_eq {ns : List Int} {m : Int} (h : m ∈ ns) (k : ∀ y ∈ ns, m ≤ y) : minI ns = m := by
  have s := minI_spec (List.length_pos_of_mem h)
  have := k _ s.1; have := s.2 _ h; omega
def fMax : PyData → Option PyData
  | .list xs => (intsD xs).bind fun ns => if 0 < ns.length then some (.int (maxI ns)) else none
  | _ => none
def fMin : PyData → Option PyData
  | .list xs => (intsD xs).bind fun ns => if 0 < ns.length then some (.int (minI ns)) else none
  | _ => none
theorem ok_max {K : PySem.W.Frag} {C : Ct} : OkN K C (rMax K) (kF1 fMax) := ok_F1 fun H x d z Q a h k => by
  unfold fMax at h
  split at h
  · rename_i xs
    cases e : intsD xs with
    | none => rw [e] at h; cases h
    | some ns =>
      rw [e] at h
      dsimp only [Option.bind] at h
      split at h
      · rename_i hp
        cases Option.some.inj h
        cases intsD_eq e
        cases a with
        | lst g r => exact ⟨_, ns, rfl, SqL.of (by rw [g, r.ints]), hp, fun m h1 h2 => by rw [← maxI_eq h1 h2]; exact k _ fun _ => .int _⟩
      · cases h
  · cases h
theorem ok_min {K : PySem.W.Frag} {C : Ct} : OkN K C (rMin K) (kF1 fMin) := ok_F1 fun H x d z Q a h k => by
  unfold fMin at h
  split at h
  · rename_i xs
    cases e : intsD xs with
    | none => rw [e] at h; cases h
    | some ns =>
      rw [e] at h
      dsimp only [Option.bind] at h
      split at h
      · rename_i hp
        cases Option.some.inj h
        cases intsD_eq e
        cases a with
        | lst g r => exact ⟨_, ns, rfl, SqL.of (by rw [g, r.ints]), hp, fun m h1 h2 => by rw [← minI_eq h1 h2]; exact k _ fun _ => .int _⟩
      · cases h
  · cases h
/-- list(x): a new list -/
def kList : List Vl → En → DK → Prop := fun vals env Q => match vals with
  | [v] => match dat env v with
    | some (.list xs) => perm env v = true ∧ Q (.tmp (.own xs)) env
    | some (.tuple xs) => perm env v = true ∧ Q (.tmp (.own xs)) env
    | _ => False
  | _ => False
theorem mono_list : MonoN kList := fun a n Q Q' hq h => by
  unfold kList at h ⊢
  split at h
  · split at h
    · exact ⟨h.1, hq _ _ h.2⟩
    · exact ⟨h.1, hq _ _ h.2⟩
    · exact h
  · exact h
theorem ok_list {K : PySem.W.Frag} {C : Ct} : OkN K C (fun xs H Q => ∃ p ys, xs = [.ref p] ∧ (SqL K H p ys ∨ SqT K H p ys) ∧ ∀ l, H l = none → Q (.ref l) (upd H l (.lst ys))) kList :=
  fun σ HP H env as ts vals vs Qd Q r q h k => by
    unfold kList at h
    split at h
    · obtain ⟨x, rfl, q'⟩ := q.one
      split at h
      · rename_i v xs e
        obtain ⟨a, ws, rfl, h1, h2⟩ := r.kids q' e h.1
        exact ⟨a, ws, rfl, .inl (SqL.of h1), fun l hl => (k _ _ h.2).own r in_app1 hl h2⟩
      · rename_i v xs e
        obtain ⟨a, ws, rfl, h1, h2⟩ := r.kidsT q' e h.1
        exact ⟨a, ws, rfl, .inr (SqT.of h1), fun l hl => (k _ _ h.2).own r in_app1 hl h2⟩
      · exact h.elim
    · exact h.elim
abbrev a1 (ta : DE) : DA := daCons ta daNil
abbrev a2 (ta tb : DE) : DA := daCons ta (daCons tb daNil)
end L3

/-! L3F: tests, and, or, not, chains, in, is, if-expressions. -/
namespace L3
open PySem L2

/-! ### tests -/
def tst (t : DE) : DT := fun ex env Q => t ex env fun v n => ∃ c, dat n v = some (.bool c) ∧ Q c n
theorem MonoE.tst {t : DE} (m : MonoE t) : MonoT (tst t) := fun ex ex' env Q Q' he hq h => m ex ex' env _ _ he (fun v n ⟨c, h1, h2⟩ => ⟨c, h1, hq _ _ h2⟩) h
section
variable {K : PySem.W.Frag} {C : Ct} {W : WX} {σ : L2.St} {H : Hp}
theorem lift_tst {t : DE} {te : TE} (m : MonoE t) (h : ∀ Q, lift K C W t σ H Q → te σ H Q) {Q : Bool → Hp → Prop} (q : liftT K C W (tst t) σ H Q) : te σ H fun x H' => ∃ k, x = .bl k ∧ Q k H' := by
  obtain ⟨HP, env, as, R, q⟩ := q
  refine h _ ⟨HP, env, as, R, m _ _ env _ _ (fun _ _ z => z) (fun v n h1 => ?_) q⟩
  intro x HP1 H1 as1 t1 R1 X1 V1
  obtain ⟨c, h2, h3⟩ := h1
  have a := R1.rp V1 h2
  cases a
  exact ⟨c, rfl, h3 HP1 H1 as1 R1.nots (X1.less fun a ha => List.mem_append_left _ ha)⟩
end
section
variable {X : Cx} {C : Ct} {W : WX} {a b c e : Expr} {ta tb tc t : DE} {k : Vl → Vl → En → DK → Prop} {r : R2} {pos : Pos} {rest : List Expr}
theorem dt_val (h : DP X C W e t) (he : ∀ whole, isTrue e X.env whole = (do let v ← whole; standAt e.pos; holding [v] (truthy v)) := by intro _; rfl) : DPT X C W e (tst t) :=
  ⟨(pt_val h.run he).imp fun σ H Q q => lift_tst h.mono (fun _ z => z) q, h.mono.tst⟩
theorem dt_cmp {op : CmpOp} (ho : OpR X (compareOp op) r) (ok : Ok2 X.K C r k) (mk : MonoK2 k) (ha : DP X C W a ta) (hb : DP X C W b tb) (hm : behindInMarks op b = false) : DPT X C W (.Compare a [op] [b] pos) (tst (d2 ta tb k)) :=
  ⟨(pt_cmpR ho ha.run hb.run hm).imp fun σ H Q q => lift_tst (te := tOp r (lift X.K C W ta) (lift X.K C W tb)) (ha.mono.d2 hb.mono mk) (fun Q z => lift2 ha.mono hb.mono ok z) q, (ha.mono.d2 hb.mono mk).tst⟩
theorem dt_lt (ha : DP X C W a ta) (hb : DP X C W b tb) : DPT X C W (.Compare a [.Lt] [b] pos) (tst (dLt ta tb)) := dt_cmp op_lt (ok_int0 fun _ _ _ => .bl _) mono_kInt ha hb (nomark _)
theorem dt_le (ha : DP X C W a ta) (hb : DP X C W b tb) : DPT X C W (.Compare a [.LtE] [b] pos) (tst (dLe ta tb)) := dt_cmp op_le (ok_int0 fun _ _ _ => .bl _) mono_kInt ha hb (nomark _)
theorem dt_gt (ha : DP X C W a ta) (hb : DP X C W b tb) : DPT X C W (.Compare a [.Gt] [b] pos) (tst (dGt ta tb)) := dt_cmp op_gt (ok_int0 fun _ _ _ => .bl _) mono_kInt ha hb (nomark _)
theorem dt_ge (ha : DP X C W a ta) (hb : DP X C W b tb) : DPT X C W (.Compare a [.GtE] [b] pos) (tst (dGe ta tb)) := dt_cmp op_ge (ok_int0 fun _ _ _ => .bl _) mono_kInt ha hb (nomark _)
theorem dt_eq {k : Nat} (hr : Room k X.A) (ha : DP X C W a ta) (hb : DP X C W b tb) : DPT X C W (.Compare a [.Eq] [b] pos) (tst (dEq ta tb)) :=
  dt_cmp (op_eq.or (op_eqD hr.units)) (ok_eq (fun x y H Q h q => ⟨h, by simpa using q⟩) fun x y H Q d e h1 h2 h3 h4 q => ⟨d, e, h1, h2, h3, h4, by simpa using q⟩) mono_eq ha hb (nomark _)
theorem dt_ne {k : Nat} (hr : Room k X.A) (ha : DP X C W a ta) (hb : DP X C W b tb) : DPT X C W (.Compare a [.NotEq] [b] pos) (tst (dNe ta tb)) :=
  dt_cmp (op_ne.or (op_neD hr.units)) (ok_eq (fun x y H Q h q => ⟨h, by simpa using q⟩) fun x y H Q d e h1 h2 h3 h4 q => ⟨d, e, h1, h2, h3, h4, by simpa using q⟩) mono_eq ha hb (nomark _)

/-! ### and, or, not -/
structure DPW (X : Cx) (C : Ct) (W : WX) (e : Expr) (t : DT) : Prop where
  run : PW X e (liftT X.K C W t)
  mono : MonoT t
theorem DPW.pt {t : DT} (h : DPW X C W e t) : DPT X C W e t := ⟨h.run.pt, h.mono⟩
theorem _root_.L2.PW.imp {X : Cx} {e : Expr} {t t' : TT} (h : PW X e t) (k : ∀ σ H Q, t' σ H Q → t σ H Q) : PW X e t' := ⟨fun w pins s σ H Q I q => h.run w pins s σ H Q I (k σ H Q q)⟩
variable {tA tB : DT}
def dAnd (t u : DT) : DT := fun ex env Q => t ex env fun c n => if c = true then u ex n Q else Q false n
def dOr (t u : DT) : DT := fun ex env Q => t ex env fun c n => if c = true then Q true n else u ex n Q
def dNot (t : DT) : DT := fun ex env Q => t ex env fun c n => Q (!c) n
theorem MonoT.and (m : MonoT tA) (m' : MonoT tB) : MonoT (dAnd tA tB) := fun ex ex' env Q Q' he hq h => m ex ex' env _ _ he (fun c n h1 => by
  cases c with
  | true => exact m' ex ex' n Q Q' he hq h1
  | false => exact hq _ _ h1) h
theorem MonoT.or (m : MonoT tA) (m' : MonoT tB) : MonoT (dOr tA tB) := fun ex ex' env Q Q' he hq h => m ex ex' env _ _ he (fun c n h1 => by
  cases c with
  | true => exact hq _ _ h1
  | false => exact m' ex ex' n Q Q' he hq h1) h
theorem MonoT.not (m : MonoT tA) : MonoT (dNot tA) := fun ex ex' env Q Q' he hq h => m ex ex' env _ _ he (fun c n h1 => hq _ _ h1) h
theorem PoT.from {K : PySem.W.Frag} {σ : L2.St} {HP H HP1 H1 : Hp} {as as1 : List Addr} {Q : Bool → Hp → Prop} {c : Bool} {n : En} (p : PoT K C σ HP H as Q c n) (x : Stp HP H as HP1 H1 as1) : PoT K C σ HP1 H1 as1 Q c n := fun HP' H' as' R X => p HP' H' as' R (x.trans X)
theorem liftT_and {K : PySem.W.Frag} {σ : L2.St} {H : Hp} {Q : Bool → Hp → Prop} (m : MonoT tA) (m' : MonoT tB) (h : liftT K C W (dAnd tA tB) σ H Q) : tAnd (liftT K C W tA) (liftT K C W tB) σ H Q := by
  obtain ⟨HP, env, as, R, h⟩ := h
  refine ⟨HP, env, as, R, m _ _ env _ _ (fun _ _ z => z) (fun c n h1 => ?_) h⟩
  intro HP1 H1 as1 R1 X1
  cases c with
  | true => exact iteT ⟨HP1, n, as1, R1, m' _ _ n _ _ (fun e n z => z.imp X1 fun a ha => ha) (fun c n2 z => PoT.from z X1) h1⟩
  | false => exact iteF (h1 HP1 H1 as1 R1 X1)
theorem liftT_or {K : PySem.W.Frag} {σ : L2.St} {H : Hp} {Q : Bool → Hp → Prop} (m : MonoT tA) (m' : MonoT tB) (h : liftT K C W (dOr tA tB) σ H Q) : tOr (liftT K C W tA) (liftT K C W tB) σ H Q := by
  obtain ⟨HP, env, as, R, h⟩ := h
  refine ⟨HP, env, as, R, m _ _ env _ _ (fun _ _ z => z) (fun c n h1 => ?_) h⟩
  intro HP1 H1 as1 R1 X1
  cases c with
  | true => exact iteT (h1 HP1 H1 as1 R1 X1)
  | false => exact iteF ⟨HP1, n, as1, R1, m' _ _ n _ _ (fun e n z => z.imp X1 fun a ha => ha) (fun c n2 z => PoT.from z X1) h1⟩
theorem dw_and1 (ha : DPT X C W a tA) : DPW X C W (.BoolOp .And [a] pos) tA := ⟨pw_and1 ha.run, ha.mono⟩
theorem dw_or1 (ha : DPT X C W a tA) : DPW X C W (.BoolOp .Or [a] pos) tA := ⟨pw_or1 ha.run, ha.mono⟩
theorem dw_and (ha : DPT X C W a tA) (hb : DPW X C W (.BoolOp .And (b :: rest) pos) tB) : DPW X C W (.BoolOp .And (a :: b :: rest) pos) (dAnd tA tB) :=
  ⟨(pw_and ha.run hb.run).imp fun σ H Q h => liftT_and ha.mono hb.mono h, ha.mono.and hb.mono⟩
theorem dw_or (ha : DPT X C W a tA) (hb : DPW X C W (.BoolOp .Or (b :: rest) pos) tB) : DPW X C W (.BoolOp .Or (a :: b :: rest) pos) (dOr tA tB) :=
  ⟨(pw_or ha.run hb.run).imp fun σ H Q h => liftT_or ha.mono hb.mono h, ha.mono.or hb.mono⟩
theorem dt_not (ha : DPT X C W a tA) : DPT X C W (.UnaryOp .Not a pos) (dNot tA) := ⟨(pt_not ha.run).imp fun σ H Q h => h, ha.mono.not⟩
/-- as values -/
def vAnd (ta tb : DE) : DE := fun ex env Q => ta ex env fun v n => ∃ c, dat n v = some (.bool c) ∧ if c = true then tb ex n Q else Q (.tmp (.sh (.bool false))) n
def vOr (ta tb : DE) : DE := fun ex env Q => ta ex env fun v n => ∃ c, dat n v = some (.bool c) ∧ if c = true then Q (.tmp (.sh (.bool true))) n else tb ex n Q
def vNot (ta : DE) : DE := fun ex env Q => ta ex env fun v n => ∃ c, dat n v = some (.bool c) ∧ Q (.tmp (.sh (.bool (!c)))) n
theorem Po.from {K : PySem.W.Frag} {σ : L2.St} {HP H HP1 H1 : Hp} {as as1 : List Addr} {Q : VK} {c : Vl} {n : En} (p : Po K C σ HP H as Q c n) (x : Stp HP H as HP1 H1 as1) : Po K C σ HP1 H1 as1 Q c n := fun v HP' H' as' ts' R X V => p v HP' H' as' ts' R (x.trans X) V
theorem MonoE.and (m : MonoE ta) (m' : MonoE tb) : MonoE (vAnd ta tb) := fun ex ex' env Q Q' he hq h => m ex ex' env _ _ he (fun v n ⟨c, e, h1⟩ => ⟨c, e, by
  cases c with
  | true => exact m' ex ex' n Q Q' he hq h1
  | false => exact hq _ _ h1⟩) h
theorem MonoE.or (m : MonoE ta) (m' : MonoE tb) : MonoE (vOr ta tb) := fun ex ex' env Q Q' he hq h => m ex ex' env _ _ he (fun v n ⟨c, e, h1⟩ => ⟨c, e, by
  cases c with
  | true => exact hq _ _ h1
  | false => exact m' ex ex' n Q Q' he hq h1⟩) h
theorem MonoE.not (m : MonoE ta) : MonoE (vNot ta) := fun ex ex' env Q Q' he hq h => m ex ex' env _ _ he (fun v n ⟨c, e, h1⟩ => ⟨c, e, hq _ _ h1⟩) h
theorem dv_and (ha : DP X C W a ta) (hb : DP X C W (.BoolOp .And (b :: rest) pos) tb) : DP X C W (.BoolOp .And (a :: b :: rest) pos) (vAnd ta tb) := by
  refine ⟨(pe_and ha.run hb.run).imp fun σ H Q h => ?_, ha.mono.and hb.mono⟩
  obtain ⟨HP, env, as, R, h⟩ := h
  refine ⟨HP, env, as, R, ha.mono _ _ env _ _ (fun _ _ z => z) (fun v n h1 => ?_) h⟩
  intro x HP1 H1 as1 t1 R1 X1 V1
  obtain ⟨c, e, h1⟩ := h1
  have w := R1.rp V1 e
  cases w
  have X2 : Stp HP H as HP1 H1 as1 := X1.less fun a ha => List.mem_append_left _ ha
  refine ⟨c, rfl, ?_⟩
  cases c with
  | true => exact iteT ⟨HP1, n, as1, R1.nots, hb.mono _ _ n _ _ (fun e n z => z.imp X2 fun a ha => ha) (fun c n2 z => Po.from z X2) h1⟩
  | false =>
    refine iteF ?_
    exact (Po.from h1 X2).sh R1 (fun a ha => ha) (.bl _)
theorem dv_or (ha : DP X C W a ta) (hb : DP X C W (.BoolOp .Or (b :: rest) pos) tb) : DP X C W (.BoolOp .Or (a :: b :: rest) pos) (vOr ta tb) := by
  refine ⟨(pe_or ha.run hb.run).imp fun σ H Q h => ?_, ha.mono.or hb.mono⟩
  obtain ⟨HP, env, as, R, h⟩ := h
  refine ⟨HP, env, as, R, ha.mono _ _ env _ _ (fun _ _ z => z) (fun v n h1 => ?_) h⟩
  intro x HP1 H1 as1 t1 R1 X1 V1
  obtain ⟨c, e, h1⟩ := h1
  have w := R1.rp V1 e
  cases w
  have X2 : Stp HP H as HP1 H1 as1 := X1.less fun a ha => List.mem_append_left _ ha
  refine ⟨c, rfl, ?_⟩
  cases c with
  | true =>
    refine iteT ?_
    exact (Po.from h1 X2).sh R1 (fun a ha => ha) (.bl _)
  | false => exact iteF ⟨HP1, n, as1, R1.nots, hb.mono _ _ n _ _ (fun e n z => z.imp X2 fun a ha => ha) (fun c n2 z => Po.from z X2) h1⟩
theorem dv_one {op} {t : DE} (h : DP X C W a t) : DP X C W (.BoolOp op [a] pos) t := ⟨pe_one h.run, h.mono⟩
theorem dv_not (ha : DP X C W a ta) : DP X C W (.UnaryOp .Not a pos) (vNot ta) := by
  refine ⟨(pe_not ha.run).imp fun σ H Q h => ?_, ha.mono.not⟩
  obtain ⟨HP, env, as, R, h⟩ := h
  refine ⟨HP, env, as, R, ha.mono _ _ env _ _ (fun _ _ z => z) (fun v n h1 => ?_) h⟩
  intro x HP1 H1 as1 t1 R1 X1 V1
  obtain ⟨c, e, h1⟩ := h1
  have w := R1.rp V1 e
  cases w
  exact ⟨c, rfl, (Po.from h1 (X1.less fun a ha => List.mem_append_left _ ha)).sh R1 (fun a ha => ha) (.bl _)⟩
/-- a if t else b -/
def dIf (t : DT) (ta tb : DE) : DE := fun ex env Q => t ex env fun c n => if c = true then ta ex n Q else tb ex n Q
theorem do_if (hc : DPT X C W c tA) (ha : DP X C W a ta) (hb : DP X C W b tb) : DP X C W (.IfExp c a b pos) (dIf tA ta tb) := by
  refine ⟨(pe_ifExp hc.run ha.run hb.run).imp fun σ H Q h => ?_, fun ex ex' env Q Q' he hq h => hc.mono ex ex' env _ _ he (fun c n h1 => ?_) h⟩
  · obtain ⟨HP, env, as, R, h⟩ := h
    refine ⟨HP, env, as, R, hc.mono _ _ env _ _ (fun _ _ z => z) (fun c n h1 => ?_) h⟩
    intro HP1 H1 as1 R1 X1
    cases c with
    | true => exact iteT ⟨HP1, n, as1, R1, ha.mono _ _ n _ _ (fun e n z => z.imp X1 fun a ha => ha) (fun c n2 z => Po.from z X1) h1⟩
    | false => exact iteF ⟨HP1, n, as1, R1, hb.mono _ _ n _ _ (fun e n z => z.imp X1 fun a ha => ha) (fun c n2 z => Po.from z X1) h1⟩
  · cases c with
    | true => exact ha.mono ex ex' n Q Q' he hq h1
    | false => exact hb.mono ex ex' n Q Q' he hq h1

/-! ### a < b < c of ints -/
def dChain (p p' : Int → Int → Bool) (ta tb tc : DE) : DE := fun ex env Q => ta ex env fun va n1 => tb ex n1 fun vb n2 => ∃ i j, dat n2 va = some (.int i) ∧ dat n2 vb = some (.int j) ∧
  if p i j = true then tc ex n2 fun vc n3 => ∃ l, dat n3 vc = some (.int l) ∧ Q (.tmp (.sh (.bool (p' j l)))) n3 else Q (.tmp (.sh (.bool false))) n2
theorem mono_chain {p p' : Int → Int → Bool} (ma : MonoE ta) (mb : MonoE tb) (mc : MonoE tc) : MonoE (dChain p p' ta tb tc) := fun ex ex' env Q Q' he hq h =>
  ma ex ex' env _ _ he (fun va n1 h1 => mb ex ex' n1 _ _ he (fun vb n2 ⟨i, j, e1, e2, h2⟩ => ⟨i, j, e1, e2, by
    split at h2
    · rename_i hp; rw [if_pos hp]; exact mc ex ex' n2 _ _ he (fun vc n3 ⟨l, e3, h3⟩ => ⟨l, e3, hq _ _ h3⟩) h2
    · rename_i hp; rw [if_neg hp]; exact hq _ _ h2⟩) h1) h
theorem lift_chain {K : PySem.W.Frag} {σ : L2.St} {H : Hp} {Q : VK} {p p' : Int → Int → Bool} (ma : MonoE ta) (mb : MonoE tb) (mc : MonoE tc) (h : lift K C W (dChain p p' ta tb tc) σ H Q) :
    tChain (rI0 fun i j => .bl (p i j)) (rI0 fun i j => .bl (p' i j)) (lift K C W ta) (lift K C W tb) (lift K C W tc) σ H Q := by
  obtain ⟨HP, env, as, R, h⟩ := h
  refine ⟨HP, env, as, R, ma _ _ env _ _ (fun _ _ z => z) (fun va n1 h1 => ?_) h⟩
  intro x HP1 H1 as1 t1 R1 X1 V1
  refine ⟨HP1, n1, as1, R1.nots, mb _ _ n1 _ _ (fun e n z => z.imp X1 fun a ha => List.mem_append_left _ ha) (fun vb n2 h2 => ?_) h1⟩
  intro y HP2 H2 as2 t2 R2 X2 V2
  obtain ⟨R3, st, X3⟩ := R1.pend X2 R2
  obtain ⟨i, j, e1, e2, h3⟩ := h2
  have w1 := R3.rp (V1.frame X2.ex st) e1
  have w2 := R3.rp V2 e2
  cases w1; cases w2
  have X4 : Stp HP H as HP2 H2 as2 := (X1.trans X3).less fun a ha => List.mem_append_left _ ha
  refine ⟨i, j, rfl, rfl, p i j, rfl, ?_⟩
  split at h3
  · rename_i hp
    rw [if_pos hp]
    refine ⟨HP2, n2, as2, R3.nots, mc _ _ n2 _ _ (fun e n z => z.imp X4 fun a ha => ha) (fun vc n3 h4 => ?_) h3⟩
    intro z HP3 H3 as3 t3 R4 X5 V3
    obtain ⟨l, e3, h5⟩ := h4
    have w3 := R4.rp V3 e3
    cases w3
    exact ⟨j, l, rfl, rfl, (Po.from h5 (X4.trans (X5.less fun a ha => List.mem_append_left _ ha))).sh R4 (fun a ha => ha) (.bl _)⟩
  · rename_i hp
    rw [if_neg hp]
    exact (Po.from h3 X4).sh R3 (fun a ha => ha) (.bl _)
def pLt (i j : Int) : Bool := decide (i < j)
def pLe (i j : Int) : Bool := decide (i ≤ j)
theorem opLt {X : Cx} : OpR X (compareOp .Lt) (rI0 fun i j => .bl (pLt i j)) := op_lt
theorem opLe {X : Cx} : OpR X (compareOp .LtE) (rI0 fun i j => .bl (pLe i j)) := op_le
theorem do_chain {op op' : CmpOp} {p p' : Int → Int → Bool} (ho : OpR X (compareOp op) (rI0 fun i j => .bl (p i j))) (ho' : OpR X (compareOp op') (rI0 fun i j => .bl (p' i j))) (ha : DP X C W a ta) (hb : DP X C W b tb) (hc : DP X C W c tc)
    (hm : lastMarks [op, op'] [b, c] = false := by with_unfolding_all rfl) : DP X C W (.Compare a [op, op'] [b, c] pos) (dChain p p' ta tb tc) :=
  ⟨(pe_chain ho ho' ha.run hb.run hc.run hm).imp fun σ H Q h => lift_chain ha.mono hb.mono hc.mono h, mono_chain ha.mono hb.mono hc.mono⟩
theorem dt_chain {op op' : CmpOp} {p p' : Int → Int → Bool} (ho : OpR X (compareOp op) (rI0 fun i j => .bl (p i j))) (ho' : OpR X (compareOp op') (rI0 fun i j => .bl (p' i j))) (ha : DP X C W a ta) (hb : DP X C W b tb) (hc : DP X C W c tc)
    (hm : lastMarks [op, op'] [b, c] = false := by with_unfolding_all rfl) : DPT X C W (.Compare a [op, op'] [b, c] pos) (tst (dChain p p' ta tb tc)) :=
  ⟨(pt_chain ho ho' ha.run hb.run hc.run hm).imp fun σ H Q q => lift_tst (te := tChain (rI0 fun i j => .bl (p i j)) (rI0 fun i j => .bl (p' i j)) (lift X.K C W ta) (lift X.K C W tb) (lift X.K C W tc)) (mono_chain ha.mono hb.mono hc.mono) (fun Q z => lift_chain ha.mono hb.mono hc.mono z) q, (mono_chain ha.mono hb.mono hc.mono).tst⟩

/-! ### in, is -/
theorem eqv_scal {H H' : Hp} {x y : V} {d e : PyData} (a : Rp H x d) (b : Rp H' y e) (hd : scal d = true) (he : scal e = true) : eqV x y = PyData.eqv d e := by
  cases a <;> cases b <;> first | rfl | cases hd | cases he | (simp [eqV, PyData.eqv]; done)
theorem inV_scal {H H' : Hp} {x : V} {d : PyData} (a : Rp H x d) (hd : scal d = true) : ∀ {vs : List V} {ds : List PyData}, RpAll H' vs ds → ds.all scal = true → inV x vs = ds.any fun e => PyData.eqv e d
  | _, _, .nil, _ => rfl
  | _, _, .cons h r, z => by
    rw [List.all_cons, Bool.and_eq_true] at z
    have ih := inV_scal a hd r z.2
    unfold inV at ih ⊢
    rw [List.any_cons, List.any_cons, ih, eqv_scal h a z.1 hd]
theorem flat_scal {H : Hp} {x : V} {d : PyData} (a : Rp H x d) (hd : scal d = true) : flatV x = true := by
  cases a <;> first | rfl | cases hd
theorem flat_all {H : Hp} : ∀ {vs : List V} {ds : List PyData}, RpAll H vs ds → ds.all scal = true → vs.all flatV = true
  | _, _, .nil, _ => rfl
  | _, _, .cons h r, z => by
    rw [List.all_cons, Bool.and_eq_true] at z
    rw [List.all_cons, flat_scal h z.1, flat_all r z.2]; rfl
def kIn (neg : Bool) : Vl → Vl → En → DK → Prop := fun va vb env Q => match dat env va, dat env vb with
  | some (.str s), some (.str z) => ∃ c, s = ⟨#[c]⟩ ∧ Q (.tmp (.sh (.bool (neg != decide (c ∈ z.cps.toList))))) env
  | some d, some (.list xs) => scal d = true ∧ xs.all scal = true ∧ Q (.tmp (.sh (.bool (neg != xs.any fun e => PyData.eqv e d)))) env
  | some d, some (.tuple xs) => scal d = true ∧ xs.all scal = true ∧ Q (.tmp (.sh (.bool (neg != xs.any fun e => PyData.eqv e d)))) env
  | _, _ => False
theorem mono_in {neg} : MonoK2 (kIn neg) := fun a b n Q Q' hq h => by
  unfold kIn at h ⊢
  split at h
  · obtain ⟨c, h1, h2⟩ := h; exact ⟨c, h1, hq _ _ h2⟩
  · exact ⟨h.1, h.2.1, hq _ _ h.2.2⟩
  · exact ⟨h.1, h.2.1, hq _ _ h.2.2⟩
  · exact h
theorem ok_in {K : PySem.W.Frag} {neg : Bool} {r1 : R2} (h1 : ∀ c z H Q, Q (.bl (neg != decide (c ∈ z.cps.toList))) H → r1 (.str ⟨#[c]⟩) (.str z) H Q) : Ok2 K C (fun x y H Q => r1 x y H Q ∨ rIn K neg x y H Q) (kIn neg) :=
  fun σ HP H env as t1 t2 va vb x y Qd Q r qa qb h k => by
    unfold kIn at h
    split at h
    · rename_i s z e1 e2
      obtain ⟨c, rfl, hq⟩ := h
      have a := r.rp qa e1
      have b := r.rp qb e2
      cases a; cases b
      exact .inl (h1 c z H Q ((k _ _ hq).sh r in_app (.bl _)))
    · rename_i d xs e1 e2
      obtain ⟨hd, hx, hq⟩ := h
      have a := r.rp qa e1
      have b := r.rp qb e2
      cases b with
      | @lst a' us _ g w =>
        refine .inr ⟨_, _, rfl, .inl (SqL.of g), flat_scal a hd, flat_all w hx, ?_⟩
        have e : (if neg = true then !inV x us else inV x us) = (neg != xs.any fun e => PyData.eqv e d) := by
          rw [inV_scal a hd w hx]
          cases neg <;> simp
        rw [e]
        exact (k _ _ hq).sh r in_app (.bl _)
    · rename_i d xs e1 e2
      obtain ⟨hd, hx, hq⟩ := h
      have a := r.rp qa e1
      have b := r.rp qb e2
      cases b with
      | @tup a' us _ g w =>
        refine .inr ⟨_, _, rfl, .inr (SqT.of g), flat_scal a hd, flat_all w hx, ?_⟩
        have e : (if neg = true then !inV x us else inV x us) = (neg != xs.any fun e => PyData.eqv e d) := by
          rw [inV_scal a hd w hx]
          cases neg <;> simp
        rw [e]
        exact (k _ _ hq).sh r in_app (.bl _)
    · exact h.elim
abbrev dIn (ta tb : DE) : DE := d2 ta tb (kIn false)
abbrev dNin (ta tb : DE) : DE := d2 ta tb (kIn true)
theorem okIn {K : PySem.W.Frag} : Ok2 K C (fun x y H Q => (∃ (c : Nat) (z : Str), x = .str ⟨#[c]⟩ ∧ y = .str z ∧ Q (.bl (decide (c ∈ z.cps.toList))) H) ∨ rIn K false x y H Q) (kIn false) :=
  ok_in (r1 := fun x y H Q => ∃ (c : Nat) (z : Str), x = .str ⟨#[c]⟩ ∧ y = .str z ∧ Q (.bl (decide (c ∈ z.cps.toList))) H) fun c z H Q q => ⟨c, z, rfl, rfl, by simpa using q⟩
theorem okNin {K : PySem.W.Frag} : Ok2 K C (fun x y H Q => (∃ (c : Nat) (z : Str), x = .str ⟨#[c]⟩ ∧ y = .str z ∧ Q (.bl (!decide (c ∈ z.cps.toList))) H) ∨ rIn K true x y H Q) (kIn true) :=
  ok_in (r1 := fun x y H Q => ∃ (c : Nat) (z : Str), x = .str ⟨#[c]⟩ ∧ y = .str z ∧ Q (.bl (!decide (c ∈ z.cps.toList))) H) fun c z H Q q => ⟨c, z, rfl, rfl, by simpa using q⟩
theorem do_in (ha : DP X C W a ta) (hb : DP X C W b tb) (hm : behindInMarks .In b = false := by rfl) : DP X C W (.Compare a [.In] [b] pos) (dIn ta tb) := dp_cmp (op_in_sign.or op_in_seq) okIn mono_in ha hb hm
theorem do_nin (ha : DP X C W a ta) (hb : DP X C W b tb) (hm : behindInMarks .NotIn b = false := by rfl) : DP X C W (.Compare a [.NotIn] [b] pos) (dNin ta tb) := dp_cmp (op_notIn_sign.or op_notIn_seq) okNin mono_in ha hb hm
theorem dt_in (ha : DP X C W a ta) (hb : DP X C W b tb) (hm : behindInMarks .In b = false := by rfl) : DPT X C W (.Compare a [.In] [b] pos) (tst (dIn ta tb)) := dt_cmp (op_in_sign.or op_in_seq) okIn mono_in ha hb hm
theorem dt_nin (ha : DP X C W a ta) (hb : DP X C W b tb) (hm : behindInMarks .NotIn b = false := by rfl) : DPT X C W (.Compare a [.NotIn] [b] pos) (tst (dNin ta tb)) := dt_cmp (op_notIn_sign.or op_notIn_seq) okNin mono_in ha hb hm
/-- is None, is True, is False -/
def isNoneD : PyData → Bool
  | .none => true
  | _ => false
def kIs (neg : Bool) : Vl → Vl → En → DK → Prop := fun va vb env Q => match dat env va, dat env vb with
  | some d, some .none => Q (.tmp (.sh (.bool (neg != isNoneD d)))) env
  | some (.bool a), some (.bool b) => Q (.tmp (.sh (.bool (neg != decide (a = b))))) env
  | _, _ => False
theorem mono_is {neg} : MonoK2 (kIs neg) := fun a b n Q Q' hq h => by
  unfold kIs at h ⊢
  split at h
  · exact hq _ _ h
  · exact hq _ _ h
  · exact h
theorem isNone_iff {H : Hp} {x : V} {d : PyData} (a : Rp H x d) : decide (x = .non) = isNoneD d := by cases a <;> rfl
theorem ok_is {K : PySem.W.Frag} {neg : Bool} {r1 r2 : R2} (h1 : ∀ x H Q, Q (.bl (neg != decide (x = .non))) H → r1 x .non H Q) (h2 : ∀ a b H Q, Q (.bl (neg != decide (a = b))) H → r2 (.bl a) (.bl b) H Q) : Ok2 K C (fun x y H Q => r1 x y H Q ∨ r2 x y H Q) (kIs neg) :=
  fun σ HP H env as t1 t2 va vb x y Qd Q r qa qb h k => by
    unfold kIs at h
    split at h
    · rename_i d e1 e2
      have a := r.rp qa e1
      have b := r.rp qb e2
      cases b
      exact .inl (h1 x H Q (by rw [isNone_iff a]; exact (k _ _ h).sh r in_app (.bl _)))
    · rename_i e1 e2
      have a := r.rp qa e1
      have b := r.rp qb e2
      cases a; cases b
      exact .inr (h2 _ _ H Q ((k _ _ h).sh r in_app (.bl _)))
    · exact h.elim
abbrev dIs (ta tb : DE) : DE := d2 ta tb (kIs false)
abbrev dIsn (ta tb : DE) : DE := d2 ta tb (kIs true)
theorem okIs {K : PySem.W.Frag} : Ok2 K C (fun x y H Q => (y = V.non ∧ Q (.bl (decide (x = .non))) H) ∨ rIsB x y H Q) (kIs false) :=
  ok_is (r1 := fun x y H Q => y = V.non ∧ Q (.bl (decide (x = .non))) H) (fun x H Q q => ⟨rfl, by simpa using q⟩) fun a b H Q q => ⟨a, b, rfl, rfl, by simpa using q⟩
theorem okIsn {K : PySem.W.Frag} : Ok2 K C (fun x y H Q => (y = V.non ∧ Q (.bl (!decide (x = .non))) H) ∨ rNotB x y H Q) (kIs true) :=
  ok_is (r1 := fun x y H Q => y = V.non ∧ Q (.bl (!decide (x = .non))) H) (fun x H Q q => ⟨rfl, by simpa using q⟩) fun a b H Q q => ⟨a, b, rfl, rfl, by simpa using q⟩
theorem do_is (ha : DP X C W a ta) (hb : DP X C W b tb) : DP X C W (.Compare a [.Is] [b] pos) (dIs ta tb) := dp_cmp (op_isN.or op_isBl) okIs mono_is ha hb (nomark _)
theorem do_isn (ha : DP X C W a ta) (hb : DP X C W b tb) : DP X C W (.Compare a [.IsNot] [b] pos) (dIsn ta tb) := dp_cmp (op_notN.or op_notBl) okIsn mono_is ha hb (nomark _)
theorem dt_is (ha : DP X C W a ta) (hb : DP X C W b tb) : DPT X C W (.Compare a [.Is] [b] pos) (tst (dIs ta tb)) := dt_cmp (op_isN.or op_isBl) okIs mono_is ha hb (nomark _)
theorem dt_isn (ha : DP X C W a ta) (hb : DP X C W b tb) : DPT X C W (.Compare a [.IsNot] [b] pos) (tst (dIsn ta tb)) := dt_cmp (op_notN.or op_notBl) okIsn mono_is ha hb (nomark _)
/-- -n -/
def kNeg : Vl → En → DK → Prop := fun va env Q => match dat env va with
  | some (.int i) => Q (.tmp (.sh (.int (-i)))) env
  | _ => False
theorem do_neg (ha : DP X C W a ta) : DP X C W (.UnaryOp .USub a pos) (d1 ta kNeg) := dp_un un_neg (fun σ HP H env as t1 va x Qd Q r qa h k => by
    unfold kNeg at h
    split at h
    · rename_i i e1
      have a := r.rp qa e1
      cases a
      exact ⟨i, rfl, (k _ _ h).sh r in_app1 (.int _)⟩
    · exact h.elim) (fun a n Q Q' hq h => by
    unfold kNeg at h ⊢
    split at h
    · exact hq _ _ h
    · exact h) ha
end
end L3

/-! L3G: statements. -/
namespace L3
open PySem L2

structure DEnds where
  nx : En → Prop
  rt : Sl → En → Prop
  bk : En → Prop := fun _ => False
  ct : En → Prop := fun _ => False
abbrev DS := DX → En → DEnds → Prop
structure DEnds.Le (D D' : DEnds) : Prop where
  nx : ∀ n, D.nx n → D'.nx n
  rt : ∀ s n, D.rt s n → D'.rt s n
  bk : ∀ n, D.bk n → D'.bk n
  ct : ∀ n, D.ct n → D'.ct n
theorem DEnds.Le.refl (D : DEnds) : D.Le D := ⟨fun _ h => h, fun _ _ h => h, fun _ h => h, fun _ h => h⟩
def MonoS (t : DS) : Prop := ∀ (ex ex' : DX) (env : En) (D D' : DEnds), (∀ e n, ex e n → ex' e n) → D.Le D' → t ex env D → t ex' env D'
def nxL (K : PySem.W.Frag) (C : Ct) (HP H : Hp) (as : List Addr) (P : L2.St → Hp → Prop) : En → Prop := fun env' => ∀ σ' HP' H' as', Rel K C HP' σ' H' env' as' [] → Stp HP H as HP' H' as' → P σ' H'
def rtL (K : PySem.W.Frag) (C : Ct) (HP H : Hp) (as : List Addr) (P : VK) : Sl → En → Prop := fun s env' => ∀ v σ' HP' H' as' ts', Rel K C HP' σ' H' env' as' ts' → Stp HP H as HP' H' (as' ++ ts') → RepS K C HP' H' s v ts' → P v H'
def endsOf (K : PySem.W.Frag) (C : Ct) (HP H : Hp) (as : List Addr) (D : Ends) : DEnds := ⟨nxL K C HP H as D.nx, rtL K C HP H as D.rt, nxL K C HP H as D.bk, nxL K C HP H as D.ct⟩
def lXs (K : PySem.W.Frag) (C : Ct) (W : WX) (HP H : Hp) (as : List Addr) : DX := fun e env' => ∀ σ' HP' H' as' d, Rel K C HP' σ' H' env' as' [] → Stp HP H as HP' H' as' → ExR HP' H' e d → W (C.cls e.cls) d σ' H'
def liftS (K : PySem.W.Frag) (C : Ct) (W : WX) (t : DS) : TS := fun D σ H => ∃ HP env as, Rel K C HP σ H env as [] ∧ t (lXs K C W HP H as) env (endsOf K C HP H as D)
structure DPS (X : Cx) (C : Ct) (W : WX) (st : Stmt) (t : DS) : Prop where
  run : PS X st (liftS X.K C W t)
  mono : MonoS t
structure DPB (X : Cx) (C : Ct) (W : WX) (sts : List Stmt) (t : DS) : Prop where
  run : PSs X sts (liftS X.K C W t)
  mono : MonoS t
theorem _root_.L2.PS.imp {X : Cx} {st : Stmt} {t t' : TS} (h : PS X st t) (k : ∀ D σ H, t' D σ H → t D σ H) : PS X st t' := ⟨fun pins s σ H D I q => h.run pins s σ H D I (k D σ H q)⟩
theorem _root_.L2.PSs.imp {X : Cx} {st : List Stmt} {t t' : TS} (h : PSs X st t) (k : ∀ D σ H, t' D σ H → t D σ H) : PSs X st t' := ⟨fun pins s σ H D I q => h.run pins s σ H D I (k D σ H q)⟩
section
variable {K : PySem.W.Frag} {C : Ct} {W : WX} {HP HP1 H H1 : Hp} {σ : L2.St} {env n : En} {as as1 ts : List Addr}
theorem lXs.at {e : Ex3} (h : lXs K C W HP H as e n) (σ : L2.St) : lX K C W σ HP H as e n := fun HP' H' as' d r x q => h σ HP' H' as' d r x q
theorem nxL.from {P : L2.St → Hp → Prop} (h : nxL K C HP H as P n) (x : Stp HP H as HP1 H1 as1) : nxL K C HP1 H1 as1 P n := fun σ' HP' H' as' r y => h σ' HP' H' as' r (x.trans y)
theorem rtL.from {P : VK} {s : Sl} (h : rtL K C HP H as P s n) (x : Stp HP H as HP1 H1 as1) : rtL K C HP1 H1 as1 P s n := fun v σ' HP' H' as' ts' r y q => h v σ' HP' H' as' ts' r (x.trans y) q
theorem lXs.from {e : Ex3} (h : lXs K C W HP H as e n) (x : Stp HP H as HP1 H1 as1) : lXs K C W HP1 H1 as1 e n := fun σ' HP' H' as' d r y q => h σ' HP' H' as' d r (x.trans y) q
theorem endsOf.from {D : Ends} (x : Stp HP H as HP1 H1 as1) : (endsOf K C HP H as D).Le (endsOf K C HP1 H1 as1 D) := ⟨fun _ h => nxL.from h x, fun _ _ h => rtL.from h x, fun _ h => nxL.from h x, fun _ h => nxL.from h x⟩
theorem Stp.cut {bs ts : List Addr} (x : Stp HP H as HP1 H1 (bs ++ ts)) : Stp HP H as HP1 H1 bs := x.less fun a ha => List.mem_append_left _ ha
end

/-! ### blocks -/
def dNext : DS := fun _ env D => D.nx env
def dSeq (t u : DS) : DS := fun ex env D => t ex env { D with nx := fun n => u ex n D }
def dBreak : DS := fun _ env D => D.bk env
def dCont : DS := fun _ env D => D.ct env
section
variable {X : Cx} {C : Ct} {W : WX} {st : Stmt} {rest : List Stmt} {t u : DS} {e : Expr} {te : DE} {pos : Pos}
theorem db_nil : DPB X C W [] dNext := ⟨pss_nil.imp fun D σ H ⟨HP, env, as, R, h⟩ => h σ HP H as R Stp.refl, fun ex ex' env D D' he hd h => hd.nx _ h⟩
theorem db_one (h : DPS X C W st t) : DPB X C W [st] t := ⟨pss_one h.run, h.mono⟩
theorem db_cons (h1 : DPS X C W st t) (h2 : DPB X C W rest u) : DPB X C W (st :: rest) (dSeq t u) := by
  refine ⟨(pss_cons h1.run h2.run).imp fun D σ H ⟨HP, env, as, R, h⟩ => ?_, fun ex ex' env D D' he hd h => h1.mono ex ex' env { D with nx := fun n => u ex n D } _ he ⟨fun n q => h2.mono ex ex' n _ _ he hd q, hd.rt, hd.bk, hd.ct⟩ h⟩
  refine ⟨HP, env, as, R, h1.mono _ _ env { endsOf X.K C HP H as D with nx := fun n => u (lXs X.K C W HP H as) n (endsOf X.K C HP H as D) } _ (fun _ _ z => z) ⟨fun n q => ?_, fun _ _ z => z, fun _ z => z, fun _ z => z⟩ h⟩
  intro σ' HP' H' as' R' x
  exact ⟨HP', n, as', R', h2.mono _ _ n _ _ (fun e n z => z.from x) (endsOf.from x) q⟩
theorem ds_pass : DPS X C W (.Pass pos) dNext := ⟨ps_pass.imp fun D σ H ⟨HP, env, as, R, h⟩ => h σ HP H as R Stp.refl, fun ex ex' env D D' he hd h => hd.nx _ h⟩
theorem ds_break : DPS X C W (.Break pos) dBreak := ⟨ps_break.imp fun D σ H ⟨HP, env, as, R, h⟩ => h σ HP H as R Stp.refl, fun ex ex' env D D' he hd h => hd.bk _ h⟩
theorem ds_continue : DPS X C W (.Continue pos) dCont := ⟨ps_continue.imp fun D σ H ⟨HP, env, as, R, h⟩ => h σ HP H as R Stp.refl, fun ex ex' env D D' he hd h => hd.ct _ h⟩
def dExpr (te : DE) : DS := fun ex env D => te ex env fun _ n => D.nx n
theorem ds_expr (he : DP X C W e te) (hs : swapsWith e none pos.line X.env = pure false := by rfl) : DPS X C W (.Expr e pos) (dExpr te) := by
  refine ⟨(ps_expr he.run hs).imp fun D σ H ⟨HP, env, as, R, h⟩ => ⟨HP, env, as, R, he.mono _ _ env _ _ (fun e n z => z.at σ) (fun v n q => ?_) h⟩, fun ex ex' env D D' hx hd h => he.mono ex ex' env _ _ hx (fun v n q => hd.nx _ q) h⟩
  intro v HP' H' as' ts' R' x V
  exact q σ HP' H' as' R'.nots x.cut
def dIfS (t : DT) (u w : DS) : DS := fun ex env D => t ex env fun c n => if c = true then u ex n D else w ex n D
theorem ds_if {c : Expr} {a b : List Stmt} {tc : DT} {ta tb : DS} (hc : DPT X C W c tc) (ha : DPB X C W a ta) (hb : DPB X C W b tb) : DPS X C W (.If c a b pos) (dIfS tc ta tb) := by
  refine ⟨(ps_if hc.run ha.run hb.run).imp fun D σ H ⟨HP, env, as, R, h⟩ => ⟨HP, env, as, R, hc.mono _ _ env _ _ (fun e n z => z.at σ) (fun c n q => ?_) h⟩, fun ex ex' env D D' hx hd h => hc.mono ex ex' env _ _ hx (fun c n q => ?_) h⟩
  · intro HP' H' as' R' x
    cases c with
    | true => exact iteT ⟨HP', n, as', R', ha.mono _ _ n _ _ (fun e n z => z.from x) (endsOf.from x) q⟩
    | false => exact iteF ⟨HP', n, as', R', hb.mono _ _ n _ _ (fun e n z => z.from x) (endsOf.from x) q⟩
  · cases c with
    | true => exact ha.mono ex ex' n D D' hx hd q
    | false => exact hb.mono ex ex' n D D' hx hd q

/-! ### return -/
def retD (v : Vl) (n : En) (rt : Sl → En → Prop) : Prop := match v with
  | .tmp s => rt s n
  | .loc i => ∃ s, n[i]? = some (some s) ∧ rt s (n.set i none)
def dRet (te : DE) : DS := fun ex env D => te ex env fun v n => retD v n D.rt
theorem set_same {σ : L2.St} {i : Nat} {x : Option V} (h : σ[i]? = some x) : σ.set i x = σ := by
  obtain ⟨hl, hv⟩ := List.getElem?_eq_some_iff.mp h
  rw [← hv]; exact List.set_getElem_self hl
/-- a slot's holding is taken out -/
theorem Rel.take {K : PySem.W.Frag} {HP H : Hp} {σ : L2.St} {env : En} {as ts : List Addr} {i : Nat} {s : Sl} {v : V} (r : Rel K C HP σ H env as ts) (e : env[i]? = some (some s)) (hv : σ[i]? = some (some v)) :
    ∃ as' t, Rel K C HP σ H (env.set i none) as' (t ++ ts) ∧ RepS K C HP H s v t ∧ ∀ a, a ∈ as' ++ (t ++ ts) ↔ a ∈ as ++ ts := by
  obtain ⟨w, pre, a, post, h1, h2, h3, h4⟩ := r.rep.at i e
  rw [hv] at h1; cases h1
  have k := h4 HP H none (some v) [] (Same.refl _) (fun _ _ => rfl) rfl
  rw [set_same hv] at k
  subst h2
  have pm : (pre ++ ([] ++ post) ++ (a ++ ts)).Perm (pre ++ (a ++ post) ++ ts) := by
    simp only [List.append_assoc, List.nil_append]
    refine List.Perm.append_left _ ?_
    rw [← List.append_assoc, ← List.append_assoc]
    exact List.Perm.append_right _ List.perm_append_comm
  refine ⟨pre ++ ([] ++ post), a, ⟨r.exP, r.exB, k, pm.nodup_iff.mpr r.nd, fun b hb => r.own b (pm.mem_iff.mp hb), r.pin⟩, h3, fun b => pm.mem_iff⟩
theorem ds_ret (he : DP X C W e te) : DPS X C W (.Return (some e) pos) (dRet te) := by
  refine ⟨(ps_ret he.run).imp fun D σ H ⟨HP, env, as, R, h⟩ => ⟨HP, env, as, R, he.mono _ _ env _ _ (fun e n z => z.at σ) (fun v n q => ?_) h⟩, fun ex ex' env D D' hx hd h => he.mono ex ex' env _ _ hx (fun v n q => ?_) h⟩
  · intro v' HP' H' as' ts' R' x V
    cases v with
    | tmp s => exact q v' σ HP' H' as' ts' R' x V
    | loc i =>
      obtain ⟨s, e1, q⟩ := q
      obtain ⟨as2, t, R2, rs, hm⟩ := R'.nots.take e1 V.1
      rw [List.append_nil] at R2
      refine q v' σ HP' H' as2 t R2 (x.less fun a ha => ?_) rs
      have z := (hm a).mp (by simpa using ha)
      exact List.mem_append_left _ (by simpa using z)
  · cases v with
    | tmp s => exact hd.rt _ _ q
    | loc i => obtain ⟨s, e1, q⟩ := q; exact ⟨s, e1, hd.rt _ _ q⟩
def dRetN : DS := fun _ env D => D.rt (.sh .none) env
theorem ds_retN : DPS X C W (.Return none pos) dRetN := ⟨ps_retN.imp fun D σ H ⟨HP, env, as, R, h⟩ => h .non σ HP H as [] R (by rw [List.append_nil]; exact Stp.refl) ⟨.non, rfl⟩, fun ex ex' env D D' he hd h => hd.rt _ _ h⟩

/-! ### name = e -/
def asgD (i : Nat) (v : Vl) (n : En) (nx : En → Prop) : Prop := i < n.length ∧ match v with
  | .tmp s => nx (n.set i (some s))
  | .loc j => ∃ d n', share (.loc j) n = some (d, n') ∧ nx (n'.set i (some (.sh d)))
theorem asgD.imp {i : Nat} {v : Vl} {n : En} {P Q : En → Prop} (h : asgD i v n P) (k : ∀ n, P n → Q n) : asgD i v n Q := by
  obtain ⟨hl, h⟩ := h
  refine ⟨hl, ?_⟩
  cases v with
  | tmp s => exact k _ h
  | loc j => obtain ⟨d, n', e, q⟩ := h; exact ⟨d, n', e, k _ q⟩
def dSet (i : Nat) (te : DE) : DS := fun ex env D => te ex env fun v n => asgD i v n D.nx
/-- a temporary is stored -/
theorem Rel.store {K : PySem.W.Frag} {HP H : Hp} {σ : L2.St} {env : En} {as t ts : List Addr} {i : Nat} {s : Sl} {v : V} (r : Rel K C HP σ H env as (t ++ ts)) (q : RepS K C HP H s v t) (hi : i < env.length) (hio : i ∉ C.io ∨ σ[i]? = some (some v)) :
    ∃ as', Rel K C HP (σ.set i (some v)) H (env.set i (some s)) as' ts ∧ ∀ a ∈ as', a ∈ as ++ t := by
  obtain ⟨w, pre, a, post, h1, h2, h3, h4⟩ := r.rep.at i (List.getElem?_eq_getElem hi)
  have k := h4 HP H (some s) (some v) t (Same.refl _) (fun _ _ => rfl) q
  subst h2
  have pm : (pre ++ (t ++ post) ++ ts).Sublist (pre ++ (t ++ (a ++ post)) ++ ts) := by
    refine List.Sublist.append (List.Sublist.append (List.Sublist.refl _) (List.Sublist.append (List.Sublist.refl _) (List.sublist_append_right _ _))) (List.Sublist.refl _)
  have pp : (pre ++ (t ++ (a ++ post)) ++ ts).Perm (pre ++ (a ++ post) ++ (t ++ ts)) := by
    simp only [List.append_assoc]
    refine List.Perm.append_left _ ?_
    rw [← List.append_assoc t, ← List.append_assoc (t ++ a), ← List.append_assoc a, ← List.append_assoc (a ++ post) t ts]
    refine List.Perm.append_right _ ?_
    rw [List.append_assoc, List.append_assoc]
    exact (List.perm_append_comm).trans (by rw [List.append_assoc])
  refine ⟨pre ++ (t ++ post), ⟨r.exP, r.exB, k, (pp.nodup_iff.mpr r.nd).sublist pm, fun b hb => r.own b (pp.mem_iff.mp (pm.mem hb)), fun m hm => ?_⟩, fun b hb => ?_⟩
  · rcases hio with z | z
    · rw [List.getElem?_set_ne (fun e => z (by rw [e]; exact hm))]; exact r.pin m hm
    · rw [set_same z]; exact r.pin m hm
  simp at hb ⊢
  rcases hb with z | z | z <;> simp [z]
theorem RepE.lenE {K : PySem.W.Frag} {HP H : Hp} {σ : L2.St} {env : En} {as : List Addr} (r : RepE K C HP H env σ as) : env.length = σ.length := r.len.symm
theorem share_len {v : Vl} {n n' : En} {d : PyData} (h : share v n = some (d, n')) : n'.length = n.length := by
  unfold share at h
  split at h
  · cases Option.some.inj h; rfl
  · cases Option.some.inj h; rfl
  · cases Option.some.inj h; rfl
  · split at h
    · cases Option.some.inj h; rfl
    · cases h
  · cases h
  · split at h
    · cases Option.some.inj h; simp
    · cases Option.some.inj h; simp
    · cases h
/-- the store of a value, whatever it is -/
theorem Rel.asg {K : PySem.W.Frag} {HP H : Hp} {σ : L2.St} {env : En} {as t ts : List Addr} {i : Nat} {v : Vl} {x : V} {P : En → Prop} (r : Rel K C HP σ H env as (t ++ ts)) (q : RepV K C HP H σ v x t) (h : asgD i v env P) (hio : i ∉ C.io) :
    ∃ HP' env' as', Rel K C HP' (σ.set i (some x)) H env' as' ts ∧ Stp HP H (as ++ (t ++ ts)) HP' H (as' ++ ts) ∧ P env' := by
  obtain ⟨hl, h⟩ := h
  cases v with
  | tmp s =>
    obtain ⟨as', r', hm⟩ := r.store q hl (.inl hio)
    exact ⟨HP, _, as', r', Stp.refl.less fun a ha => by
      rcases List.mem_append.mp ha with z | z
      · have := hm a z; simp at this ⊢; rcases this with w | w <;> simp [w]
      · simp [z], h⟩
  | loc j =>
    obtain ⟨d, n', e, h⟩ := h
    obtain ⟨HP1, as1, r1, g1, x1⟩ := r.share q e
    have r1' : Rel K C HP1 σ H n' as1 ([] ++ ts) := r1
    obtain ⟨as', r', hm⟩ := r1'.store (s := .sh d) (v := x) (t := []) ⟨g1, rfl⟩ (by rw [share_len e]; exact hl) (.inl hio)
    exact ⟨HP1, _, as', r', x1.less fun a ha => by
      rcases List.mem_append.mp ha with z | z
      · have := hm a z; simp at this ⊢; simp [this]
      · simp [z], h⟩
theorem ds_set {i : Nat} {x : Str} {pos' : Pos} (hN : X.N.Nodup) (he : DP X C W e te) (hi : X.N[i]? = some x := by rfl) (hx : Loc X.env.scope x := by first | exact Or.inl rfl | exact Or.inr rfl) (hs : swapsWith e (some (.Name x pos')) pos.line X.env = pure false := by rfl)
    (hf : X.fn x = true ∨ X.env.scope.names.lookup x = some .local := by first | exact .inl rfl | exact .inr rfl | assumption) (hio : i ∉ C.io := by exact of_decide_eq_true rfl) : DPS X C W (.Assign [.Name x pos'] e pos) (dSet i te) := by
  refine ⟨(ps_set hN hi hx he.run hs hf).imp fun D σ H ⟨HP, env, as, R, h⟩ => ⟨HP, env, as, R, he.mono _ _ env _ _ (fun e n z => z.at σ) (fun v n q => ?_) h⟩, fun ex ex' env D D' hx hd h => he.mono ex ex' env _ _ hx (fun v n q => q.imp hd.nx) h⟩
  intro v' HP' H' as' ts' R' x V
  have R2 : Rel X.K C HP' σ H' n as' (ts' ++ []) := by rw [List.append_nil]; exact R'
  obtain ⟨HP2, env2, as2, R3, x2, p⟩ := R2.asg V q hio
  rw [List.append_nil, List.append_nil] at x2
  exact p _ HP2 H' as2 R3 (x.trans x2)

end

/-! ### a, b = x, y -/
def stA : List Nat → List Vl → En → (En → Prop) → Prop
  | [], [], n, P => P n
  | i :: is, .tmp s :: vs, n, P => i < n.length ∧ stA is vs (n.set i (some s)) P
  | _, _, _, _ => False
theorem stA.imp : ∀ {is : List Nat} {vs : List Vl} {n : En} {P Q : En → Prop}, stA is vs n P → (∀ n, P n → Q n) → stA is vs n Q
  | [], [], _, _, _, h, k => k _ h
  | i :: is, .tmp s :: vs, _, _, _, h, k => ⟨h.1, stA.imp h.2 k⟩
  | [], _ :: _, _, _, _, h, _ => h.elim
  | _ :: _, [], _, _, _, h, _ => h.elim
  | _ :: _, .loc _ :: _, _, _, _, h, _ => h.elim
def setA : List Nat → List V → L2.St → L2.St
  | i :: is, v :: vs, σ => setA is vs (σ.set i (some v))
  | _, _, σ => σ
theorem Rel.stA {K : PySem.W.Frag} {C : Ct} {HP H : Hp} : ∀ {is : List Nat} {vals : List Vl} {σ : L2.St} {env : En} {as t : List Addr} {vs : List V} {P : En → Prop}, Rel K C HP σ H env as t → RepVs K C HP H σ vals vs t → L3.stA is vals env P → (∀ i ∈ is, i ∉ C.io) →
    ∃ env' as', Rel K C HP (setA is vs σ) H env' as' [] ∧ Stp HP H (as ++ t) HP H as' ∧ P env'
  | [], [], σ, env, as, t, vs, P, r, q, h, hio => by
    obtain ⟨rfl, rfl⟩ := q
    exact ⟨env, as, r, Stp.refl.less fun a ha => by simp [ha], h⟩
  | i :: is, .tmp s :: vals, σ, env, as, t, vs, P, r, q, h, hio => by
    obtain ⟨x, w, t1, t2, rfl, rfl, q1, q2⟩ := q
    obtain ⟨as1, r1, hm⟩ := r.store q1 h.1 (.inl (hio i (by simp)))
    have q2' : ∀ {vals : List Vl} {w : List V} {t2 : List Addr} {P : En → Prop} {is : List Nat} {n : En}, RepVs K C HP H σ vals w t2 → L3.stA is vals n P → RepVs K C HP H (σ.set i (some x)) vals w t2 := by
      intro vals
      induction vals with
      | nil => intro w t2 P is n q _; exact q
      | cons a vals ih =>
        intro w t2 P is n q h
        obtain ⟨y, w', u1, u2, rfl, rfl, g1, g2⟩ := q
        cases is with
        | nil => exact h.elim
        | cons i' is => cases a with
          | loc _ => exact h.elim
          | tmp s' => exact ⟨y, w', u1, u2, rfl, rfl, g1, ih g2 h.2⟩
    obtain ⟨env', as', r2, x2, p⟩ := Rel.stA r1 (q2' q2 h.2) h.2 fun m hm => hio m (by simp [hm])
    refine ⟨env', as', r2, (Stp.refl.less fun a ha => ?_).trans x2, p⟩
    rcases List.mem_append.mp ha with z | z
    · have := hm a z; simp at this ⊢; rcases this with w | w <;> simp [w]
    · simp [z]
  | [], _ :: _, _, _, _, _, _, _, _, _, h, _ => h.elim
  | _ :: _, [], _, _, _, _, _, _, _, _, h, _ => h.elim
  | _ :: _, .loc _ :: _, _, _, _, _, _, _, _, _, h, _ => h.elim
def dPar (is : List Nat) (ta : DA) : DS := fun ex env D => ta ex env fun vals n => stA is vals n D.nx
theorem stA_len : ∀ {is : List Nat} {vals : List Vl} {n : En} {P : En → Prop}, stA is vals n P → vals.length = is.length
  | [], [], _, _, _ => rfl
  | i :: is, .tmp s :: vs, _, _, h => by rw [List.length_cons, List.length_cons, stA_len h.2]
  | [], _ :: _, _, _, h => h.elim
  | _ :: _, [], _, _, h => h.elim
  | _ :: _, .loc _ :: _, _, _, h => h.elim
theorem RepVs.length {K : PySem.W.Frag} {C : Ct} {HP H : Hp} {σ : L2.St} : ∀ {vals : List Vl} {vs : List V} {ts : List Addr}, RepVs K C HP H σ vals vs ts → vs.length = vals.length
  | [], vs, ts, q => by rw [q.1]; rfl
  | a :: as, vs, ts, q => by
    obtain ⟨v, r, t1, t2, rfl, rfl, _, h2⟩ := q
    rw [List.length_cons, List.length_cons, h2.length]
section
variable {X : Cx} {C : Ct} {W : WX} {ta : DA} {pos : Pos}
theorem lift_par {K : PySem.W.Frag} {is : List Nat} {σ : L2.St} {H : Hp} {D : Ends} {ts : TA} (ma : MonoA ta) (hr : ∀ Q, liftA K C W ta σ H Q → ts σ H Q) (h : liftS K C W (dPar is ta) D σ H) (hio : ∀ i ∈ is, i ∉ C.io) : ts σ H fun vs H1 => vs.length = is.length ∧ D.nx (setA is vs σ) H1 := by
  obtain ⟨HP, env, as, R, h⟩ := h
  refine hr _ ⟨HP, env, as, R, ma _ _ env _ _ (fun e n z => z.at σ) (fun vals n q => ?_) h⟩
  intro vs HP' H' as' ts' R' x V
  obtain ⟨env2, as2, R2, x2, p⟩ := R'.stA V q hio
  exact ⟨by rw [V.length, stA_len q], p _ HP' H' as2 R2 (x.trans x2)⟩
theorem mono_par {is : List Nat} (ma : MonoA ta) : MonoS (dPar is ta) := fun ex ex' env D D' hx hd h => ma ex ex' env _ _ hx (fun v n q => q.imp hd.nx) h
theorem ds_par2 {i j : Nat} {x y : Str} {a b : Expr} {px py pt : Pos} {kt k2 pt2} (hc : X.calm = true) (hN : X.N.Nodup) (ha : DPA X C W [a, b] ta) (hi : X.N[i]? = some x := by rfl) (hj : X.N[j]? = some y := by rfl) (hij : i ≠ j := by decide)
    (hx : X.env.scope.names.lookup x = some .local := by rfl) (hy : X.env.scope.names.lookup y = some .local := by rfl)
    (hw : swappedStores [.Tuple [.Name x px, .Name y py] kt pt] (.Tuple [a, b] k2 pt2) X.env = pure (some [x, y]) := by rfl)
    (hs : swapsWithSole [.Tuple [.Name x px, .Name y py] kt pt] (.Tuple [a, b] k2 pt2) pos.line X.env = pure false := by rfl) (hio : ∀ i' ∈ [i, j], i' ∉ C.io := by exact of_decide_eq_true rfl) :
    DPS X C W (.Assign [.Tuple [.Name x px, .Name y py] kt pt] (.Tuple [a, b] k2 pt2) pos) (dPar [i, j] ta) := by
  refine ⟨(ps_par hc hN hi hj hij hx hy ha.run hw hs).imp fun D σ H h => ?_, mono_par ha.mono⟩
  have q := lift_par (ts := liftA X.K C W ta) ha.mono (fun _ z => z) h hio
  obtain ⟨HP, env, as, R, q⟩ := q
  refine ⟨HP, env, as, R, ha.mono _ _ env _ _ (fun _ _ z => z) (fun vals n q => ?_) q⟩
  intro vs HP' H' as' ts' R' x V
  obtain ⟨hl, p⟩ := q vs HP' H' as' ts' R' x V
  match vs, hl, p with
  | [v, w], _, p => exact ⟨v, w, rfl, p⟩
theorem ds_par3 {i j l : Nat} {x y z : Str} {a b c : Expr} {px py pz pt : Pos} {kt k2 pt2} (hc : X.calm = true) (hN : X.N.Nodup) (ha : DPA X C W [a, b, c] ta) (hi : X.N[i]? = some x := by rfl) (hj : X.N[j]? = some y := by rfl) (hl : X.N[l]? = some z := by rfl) (hij : i ≠ j := by decide) (hil : i ≠ l := by decide) (hjl : j ≠ l := by decide)
    (hx : X.env.scope.names.lookup x = some .local := by rfl) (hy : X.env.scope.names.lookup y = some .local := by rfl) (hz : X.env.scope.names.lookup z = some .local := by rfl)
    (hw : swappedStores [.Tuple [.Name x px, .Name y py, .Name z pz] kt pt] (.Tuple [a, b, c] k2 pt2) X.env = pure (some [x, y, z]) := by rfl)
    (hs : swapsWithSole [.Tuple [.Name x px, .Name y py, .Name z pz] kt pt] (.Tuple [a, b, c] k2 pt2) pos.line X.env = pure false := by rfl) (hio : ∀ i' ∈ [i, j, l], i' ∉ C.io := by exact of_decide_eq_true rfl) :
    DPS X C W (.Assign [.Tuple [.Name x px, .Name y py, .Name z pz] kt pt] (.Tuple [a, b, c] k2 pt2) pos) (dPar [i, j, l] ta) := by
  refine ⟨(ps_par3 hc hN hi hj hl hij hil hjl hx hy hz ha.run hw hs).imp fun D σ H h => ?_, mono_par ha.mono⟩
  have q := lift_par (ts := liftA X.K C W ta) ha.mono (fun _ z => z) h hio
  obtain ⟨HP, env, as, R, q⟩ := q
  refine ⟨HP, env, as, R, ha.mono _ _ env _ _ (fun _ _ z => z) (fun vals n q => ?_) q⟩
  intro vs HP' H' as' ts' R' x V
  obtain ⟨hl, p⟩ := q vs HP' H' as' ts' R' x V
  match vs, hl, p with
  | [u, v, w], _, p => exact ⟨u, v, w, rfl, p⟩
end

/-! ### a, b = a tuple -/
/-- data of a tuple are stored, one name each -/
def stD : List Nat → List PyData → (PyData → Sl) → En → Option En
  | [], [], _, n => some n
  | i :: is, d :: ds, f, n => if i < n.length then stD is ds f (n.set i (some (f d))) else none
  | _, _, _, _ => none
def slS (env : En) (v : Vl) (d : PyData) : Sl := match slotOf env v with
  | some s => chS s d
  | none => .sh d
def dUnp (is : List Nat) (te : DE) : DS := fun ex env D => te ex env fun v n => ∃ xs n', dat n v = some (.tuple xs) ∧ stD is xs (slS n v) n = some n' ∧ D.nx n'
def gNames : List Nat → TGs
  | [] => gNil
  | i :: is => gCons (gName i) (gNames is)
theorem Rel.stD {K : PySem.W.Frag} {C : Ct} {HP H : Hp} {f : PyData → Sl} : ∀ {is : List Nat} {ds : List PyData} {vs : List V} {σ : L2.St} {env env' : En} {as : List Addr} {Q : L2.St → Hp → Prop}, Rel K C HP σ H env as [] → vs.length = ds.length →
    (∀ (i : Nat) d, ds[i]? = some d → ∃ w, vs[i]? = some w ∧ RepS K C HP H (f d) w []) → L3.stD is ds f env = some env' → (∀ i ∈ is, i ∉ C.io) → (∀ σ' as', Rel K C HP σ' H env' as' [] → (∀ a ∈ as', a ∈ as) → Q σ' H) → gNames is vs σ H Q
  | [], [], vs, σ, env, env', as, Q, r, hl, hg, h, hio, k => by
    cases Option.some.inj h
    have e : vs = [] := List.eq_nil_of_length_eq_zero hl
    exact ⟨e, k σ as r fun _ h => h⟩
  | i :: is, d :: ds, vs, σ, env, env', as, Q, r, hl, hg, h, hio, k => by
    unfold L3.stD at h
    split at h
    · rename_i hi
      obtain ⟨w, hw, rw_⟩ := hg 0 d rfl
      cases vs with
      | nil => cases hw
      | cons v vs =>
        cases Option.some.inj hw
        have r' : Rel K C HP σ H env as ([] ++ []) := r
        obtain ⟨as1, r1, hm⟩ := r'.store rw_ hi (.inl (hio i (by simp)))
        refine ⟨_, vs, rfl, ?_⟩
        show gNames is vs (σ.set i (some _)) H Q
        exact Rel.stD r1 (by simpa using hl) (fun j d' hj => by
          obtain ⟨u, hu, ru⟩ := hg (j + 1) d' (by simpa using hj)
          exact ⟨u, by simpa using hu, ru⟩) h (fun m hm => hio m (by simp [hm])) fun σ' as' R' hm' => k σ' as' R' fun a ha => by have := hm a (hm' a ha); simpa using this
    · cases h
  | [], _ :: _, _, _, _, _, _, _, _, _, _, h, _, _ => by cases h
  | _ :: _, [], _, _, _, _, _, _, _, _, _, h, _, _ => by cases h
theorem stD_len {f : PyData → Sl} : ∀ {is : List Nat} {ds : List PyData} {n n' : En}, stD is ds f n = some n' → ds.length = is.length
  | [], [], _, _, _ => rfl
  | i :: is, d :: ds, n, n', h => by
    unfold stD at h
    split at h
    · rw [List.length_cons, List.length_cons, stD_len h]
    · cases h
  | [], _ :: _, _, _, h => by cases h
  | _ :: _, [], _, _, h => by cases h
theorem Rel.unp {K : PySem.W.Frag} {C : Ct} {HP H : Hp} {σ : L2.St} {env env' : En} {as ts t : List Addr} {v : Vl} {x : V} {xs : List PyData} {is : List Nat} {Q : L2.St → Hp → Prop} (r : Rel K C HP σ H env as ts) (q : RepV K C HP H σ v x t) (e : dat env v = some (.tuple xs))
    (h : L3.stD is xs (slS env v) env = some env') (hio : ∀ i ∈ is, i ∉ C.io) (k : ∀ σ' as', Rel K C HP σ' H env' as' [] → (∀ a ∈ as', a ∈ as) → Q σ' H) : gTup K is.length (gNames is) x σ H Q := by
  obtain ⟨a, vs, rfl, _, h2, len, get⟩ := r.child q (.inr e)
  refine ⟨a, vs, rfl, SqT.of (h2 e), by rw [len, stD_len h], Rel.stD r.nots len (fun i d hd => ?_) h hio k⟩
  obtain ⟨w, w1, w2⟩ := get i d hd
  refine ⟨w, w1, ?_⟩
  unfold ch at w2
  unfold slS
  cases z : slotOf env v with
  | none => rw [z] at w2; exact w2
  | some s => rw [z] at w2; exact w2
section
variable {X : Cx} {C : Ct} {W : WX} {te : DE} {pos : Pos} {e : Expr}
/-- targets that are names, one slot each -/
structure NamesG (X : Cx) (es : List Expr) (is : List Nat) : Prop where
  run : PGs X es (gNames is)
theorem ng_nil : NamesG X [] [] := ⟨pgs_nil⟩
theorem ng_cons {x : Str} {p : Pos} {i : Nat} {es : List Expr} {is : List Nat} (hN : X.N.Nodup) (h : NamesG X es is) (hi : X.N[i]? = some x := by rfl) (hx : Loc X.env.scope x := by first | exact Or.inl rfl | exact Or.inr rfl) (hf : X.fn x = true ∨ X.env.scope.names.lookup x = some .local := by first | exact .inl rfl | exact .inr rfl | assumption)
    (hs : (assignEach (.Name x p :: es) X.env).map (·.2) = assign (.Name x p) X.env :: (assignEach es X.env).map (·.2) := by rfl) : NamesG X (.Name x p :: es) (i :: is) := ⟨pgs_cons (pg_name hN hi hx hf) h.run hs⟩
theorem ds_unp {es : List Expr} {is : List Nat} {k : Nat} {p : Pos} (hc : X.calm = true) (he : DP X C W e te) (hg : NamesG X es is) (hn : (assignEach es X.env).length = is.length := by rfl) (hst : (assignEach es X.env).findIdx? (·.1) = none := by rfl) (hs : swapsWithSole [.Tuple es k p] e pos.line X.env = pure false := by rfl)
    (hw : swappedStores [.Tuple es k p] e X.env = pure none := by rfl) (h1 : (assignEach [.Tuple es k p] X.env).map (·.2) = [assign (.Tuple es k p) X.env] := by rfl) (hio : ∀ i ∈ is, i ∉ C.io := by exact of_decide_eq_true rfl) : DPS X C W (.Assign [.Tuple es k p] e pos) (dUnp is te) := by
  refine ⟨(ps_asg he.run (pg_tup hc hg.run hn hst) hs hw h1).imp fun D σ H ⟨HP, env, as, R, h⟩ => ⟨HP, env, as, R, he.mono _ _ env _ _ (fun e n z => z.at σ) (fun v n q => ?_) h⟩, fun ex ex' env D D' hx hd h => he.mono ex ex' env _ _ hx (fun v n ⟨xs, n', h1, h2, h3⟩ => ⟨xs, n', h1, h2, hd.nx _ h3⟩) h⟩
  intro v' HP' H' as' ts' R' x V
  obtain ⟨xs, n', e1, e2, p⟩ := q
  exact R'.unp V e1 e2 hio fun σ2 as2 R2 hm => p σ2 HP' H' as2 R2 (x.less fun a ha => List.mem_append_left _ (hm a ha))
end
end L3

/-! L3H: loops; what changes an own list. -/
namespace L3
open PySem L2

/-! ### while -/
def dWhile (t : DT) (tb : DS) : DS := fun ex env D => ∃ W : Nat → En → Prop, (∃ m, W m env) ∧ ∀ m n, W m n → t ex n fun c n1 => if c = true then ∃ N : En → Prop, (∀ n', N n' → ∃ m', m' < m ∧ W m' n') ∧ tb ex n1 { D with nx := N, ct := N, bk := D.nx } else D.nx n1
section
variable {X : Cx} {C : Ct} {W : WX} {pos : Pos}
theorem ds_while {c : Expr} {body : List Stmt} {tc : DT} {tb : DS} (hp : PassesOwn (model X.prog X.w) X.A X.env X.xe) (hc : DPT X C W c tc) (hb : DPB X C W body tb) : DPS X C W (.While c body [] pos) (dWhile tc tb) := by
  refine ⟨(ps_while hp hc.run hb.run).imp fun D σ H ⟨HP, env, as, R, h⟩ => ?_, fun ex ex' env D D' hx hd h => ?_⟩
  · obtain ⟨Wd, ⟨m0, w0⟩, turn⟩ := h
    refine ⟨fun m σ' H' => ∃ HP' env' as', Rel X.K C HP' σ' H' env' as' [] ∧ Stp HP H as HP' H' as' ∧ Wd m env', ⟨m0, HP, env, as, R, Stp.refl, w0⟩, ?_⟩
    rintro m σ1 H1 ⟨HP1, env1, as1, R1, x1, w1⟩
    refine ⟨HP1, env1, as1, R1, hc.mono _ _ env1 _ _ (fun e n z => (z.from x1).at σ1) (fun c n q => ?_) (turn m env1 w1)⟩
    intro HP2 H2 as2 R2 x2
    cases c with
    | true =>
      obtain ⟨N, hN, q⟩ := q
      refine iteT ⟨fun σ' H' => ∃ HP' env' as', Rel X.K C HP' σ' H' env' as' [] ∧ Stp HP H as HP' H' as' ∧ N env', fun σ' H' ⟨HP', env', as', R', x', n'⟩ => ?_, ?_⟩
      · obtain ⟨m', hm, w'⟩ := hN env' n'
        exact ⟨m', hm, HP', env', as', R', x', w'⟩
      · refine ⟨HP2, n, as2, R2, hb.mono _ _ n _ _ (fun e n z => z.from (x1.trans x2)) ⟨fun n3 h3 => ?_, fun s n3 h3 => rtL.from h3 (x1.trans x2), fun n3 h3 => nxL.from h3 (x1.trans x2), fun n3 h3 => ?_⟩ q⟩
        · exact fun σ' HP' H' as' R' y => ⟨HP', n3, as', R', (x1.trans x2).trans y, h3⟩
        · exact fun σ' HP' H' as' R' y => ⟨HP', n3, as', R', (x1.trans x2).trans y, h3⟩
    | false => exact iteF (q σ1 HP2 H2 as2 R2 (x1.trans x2))
  · obtain ⟨Wd, w0, turn⟩ := h
    refine ⟨Wd, w0, fun m n w => hc.mono ex ex' n _ _ hx (fun c n1 q => ?_) (turn m n w)⟩
    cases c with
    | true =>
      obtain ⟨N, hN, q⟩ := q
      exact iteT ⟨N, hN, hb.mono ex ex' n1 { D with nx := N, ct := N, bk := D.nx } _ hx ⟨fun _ z => z, hd.rt, hd.nx, fun _ z => z⟩ q⟩
    | false => exact iteF (hd.nx _ q)
end

/-! ### for -/
theorem for_core {K : PySem.W.Frag} {C : Ct} {Wx : WX} {J : It} {g : TG} {tb : DS} {D : Ends} {σ : L2.St} {HP1 H1 : Hp} {env1 : En} {as1 : List Addr} {n : Nat} {st : Nat → En → En} (mb : MonoS tb) (Wd : Nat → En → Prop) (R1 : Rel K C HP1 σ H1 env1 as1 []) (w0 : Wd 0 env1)
    (good : ∀ (i : Nat) σ' H' HP' env' as', Rel K C HP' σ' H' env' as' [] → Same HP1 HP' → Wd i env' → (i < n → J.go i H') ∧ (n ≤ i → J.stop i H'))
    (turn : ∀ (i : Nat) σ' H' HP' env' as' x H'', Rel K C HP' σ' H' env' as' [] → Same HP1 HP' → i < n → Wd i env' → J.yld i H' x H'' → ∀ Q : L2.St → Hp → Prop, (∀ σ2 HP2 H2 as2, Rel K C HP2 σ2 H2 (st i env') as2 [] → Stp HP' H' as' HP2 H2 as2 → Q σ2 H2) → g x σ' H'' Q)
    (body : ∀ i n', i < n → Wd i n' → tb (lXs K C Wx HP1 H1 as1) (st i n') { endsOf K C HP1 H1 as1 D with nx := Wd (i + 1), ct := Wd (i + 1), bk := (endsOf K C HP1 H1 as1 D).nx })
    (done : ∀ n', Wd n n' → (endsOf K C HP1 H1 as1 D).nx n') :
    ∃ W : Nat → Nat → L2.St → Hp → Prop, (∃ m, W 0 m σ H1) ∧ ∀ i m σ H, W i m σ H →
      (J.stop i H ∧ D.nx σ H) ∨ (J.go i H ∧ ∃ N : L2.St → Hp → Prop, (∀ σ' H', N σ' H' → ∃ m', m' < m ∧ W (i + 1) m' σ' H') ∧ ∀ x H', J.yld i H x H' → g x σ H' fun σ2 H2 => liftS K C Wx tb { D with nx := N, ct := N, bk := D.nx } σ2 H2) := by
  refine ⟨fun i m σ' H' => m = n - i ∧ i ≤ n ∧ ∃ HP' env' as', Rel K C HP' σ' H' env' as' [] ∧ Stp HP1 H1 as1 HP' H' as' ∧ Wd i env', ⟨n, by simp, Nat.zero_le _, HP1, env1, as1, R1, Stp.refl, w0⟩, ?_⟩
  rintro i m σ' H' ⟨rfl, hi, HP', env', as', R', x', w'⟩
  obtain ⟨gd, sp⟩ := good i σ' H' HP' env' as' R' x'.ex w'
  by_cases hlt : i < n
  · refine .inr ⟨gd hlt, fun σ3 H3 => ∃ HP3 env3 as3, Rel K C HP3 σ3 H3 env3 as3 [] ∧ Stp HP1 H1 as1 HP3 H3 as3 ∧ Wd (i + 1) env3, fun σ3 H3 ⟨HP3, env3, as3, R3, x3, w3⟩ => ⟨n - (i + 1), by omega, rfl, hlt, HP3, env3, as3, R3, x3, w3⟩, fun v H'' y => ?_⟩
    refine turn i σ' H' HP' env' as' v H'' R' x'.ex hlt w' y _ fun σ2 HP2 H2 as2 R2 x2 => ?_
    refine ⟨HP2, st i env', as2, R2, mb _ _ _ { endsOf K C HP1 H1 as1 D with nx := Wd (i + 1), ct := Wd (i + 1), bk := (endsOf K C HP1 H1 as1 D).nx } _ (fun e n z => z.from (x'.trans x2)) ⟨fun n3 h3 => ?_, fun s n3 h3 => rtL.from h3 (x'.trans x2), fun n3 h3 => nxL.from h3 (x'.trans x2), fun n3 h3 => ?_⟩ (body i env' hlt w')⟩
    · exact fun σ4 HP4 H4 as4 R4 y4 => ⟨HP4, n3, as4, R4, (x'.trans x2).trans y4, h3⟩
    · exact fun σ4 HP4 H4 as4 R4 y4 => ⟨HP4, n3, as4, R4, (x'.trans x2).trans y4, h3⟩
  · have e : i = n := by omega
    subst e
    exact .inl ⟨sp (Nat.le_refl _), done env' w' σ' HP' H' as' R' x'⟩

/-- range(..) -/
def rng1 (n : En) : List Vl → Option (Int × Int)
  | [v] => match dat n v with
    | some (.int j) => some (0, j)
    | _ => none
  | _ => none
def rng2 (n : En) : List Vl → Option (Int × Int)
  | [v, w] => match dat n v, dat n w with
    | some (.int i), some (.int j) => some (i, j)
    | _, _ => none
  | _ => none
def RB (i : Int) : Prop := -(2 ^ 62) ≤ i ∧ i < 2 ^ 62
def dForR (rng : En → List Vl → Option (Int × Int)) (ta : DA) (j : Nat) (tb : DS) : DS := fun ex env D => ta ex env fun vals n0 => ∃ lo hi : Int, rng n0 vals = some (lo, hi) ∧ RB lo ∧ RB hi ∧ ∃ W : Nat → En → Prop, W 0 n0 ∧
  (∀ (i : Nat) n, lo + i < hi → W i n → j < n.length ∧ tb ex (n.set j (some (.sh (.int (lo + i))))) { D with nx := W (i + 1), ct := W (i + 1), bk := D.nx }) ∧ ∀ n, W (hi - lo).toNat n → D.nx n
theorem mono_forR {rng : En → List Vl → Option (Int × Int)} {ta : DA} {j : Nat} {tb : DS} (ma : MonoA ta) (mb : MonoS tb) : MonoS (dForR rng ta j tb) := fun ex ex' env D D' hx hd h =>
  ma ex ex' env _ _ hx (fun vals n0 ⟨lo, hi, h1, h2, h3, W, w0, hs, hd2⟩ => ⟨lo, hi, h1, h2, h3, W, w0, fun i n hl w => ⟨(hs i n hl w).1, mb ex ex' _ { D with nx := W (i + 1), ct := W (i + 1), bk := D.nx } _ hx ⟨fun _ z => z, hd.rt, hd.nx, fun _ z => z⟩ (hs i n hl w).2⟩, fun n w => hd.nx _ (hd2 n w)⟩) h
section
variable {X : Cx} {C : Ct} {W : WX} {pos : Pos} {x : Str} {px : Pos} {j : Nat} {body : List Stmt} {tb : DS} {ta : DA}
theorem lift_forR {K : PySem.W.Frag} {σ : L2.St} {HP H : Hp} {as : List Addr} {D : Ends} {lo hi : Int} {HP1 H1 : Hp} {n0 : En} {as1 : List Addr} (mb : MonoS tb) (hio : j ∉ C.io) (x1 : Stp HP H as HP1 H1 as1) (R1 : Rel K C HP1 σ H1 n0 as1 [])
    (h : ∃ Wd : Nat → En → Prop, Wd 0 n0 ∧ (∀ (i : Nat) n, lo + i < hi → Wd i n → j < n.length ∧ tb (lXs K C W HP H as) (n.set j (some (.sh (.int (lo + i))))) { endsOf K C HP H as D with nx := Wd (i + 1), ct := Wd (i + 1), bk := (endsOf K C HP H as D).nx }) ∧ ∀ n, Wd (hi - lo).toNat n → (endsOf K C HP H as D).nx n) :
    ∃ W' : Nat → Nat → L2.St → Hp → Prop, (∃ m, W' 0 m σ H1) ∧ ∀ i m σ H, W' i m σ H →
      ((Itr lo (hi - lo).toNat).stop i H ∧ D.nx σ H) ∨ ((Itr lo (hi - lo).toNat).go i H ∧ ∃ N : L2.St → Hp → Prop, (∀ σ' H', N σ' H' → ∃ m', m' < m ∧ W' (i + 1) m' σ' H') ∧ ∀ x H', (Itr lo (hi - lo).toNat).yld i H x H' → (gName j) x σ H' fun σ2 H2 => liftS K C W tb { D with nx := N, ct := N, bk := D.nx } σ2 H2) := by
  obtain ⟨Wd, w0, hs, hd⟩ := h
  refine for_core (n := (hi - lo).toNat) (st := fun i n => n.set j (some (.sh (.int (lo + i))))) mb Wd R1 w0 (fun i σ' H' HP' env' as' R' s w => ⟨fun h => h, fun h => h⟩) (fun i σ' H' HP' env' as' v H'' R' s hi' w y Q k => ?_) (fun i n hi' w => ?_) fun n w => nxL.from (hd n w) x1
  · obtain ⟨rfl, rfl⟩ := y
    obtain ⟨hl, _⟩ := hs i env' (by omega) w
    have R2 : Rel K C HP' σ' H'' env' as' ([] ++ []) := R'
    obtain ⟨as2, R3, hm⟩ := R2.store (s := .sh (.int (lo + i))) (v := .int (lo + i)) (t := []) ⟨.int _, rfl⟩ hl (.inl hio)
    exact k _ HP' H'' as2 R3 (Stp.refl.less fun a ha => by simpa using hm a ha)
  · exact mb _ _ _ { endsOf K C HP H as D with nx := Wd (i + 1), ct := Wd (i + 1), bk := (endsOf K C HP H as D).nx } _ (fun e n z => z.from x1) ⟨fun _ z => z, fun _ _ z => rtL.from z x1, fun _ z => nxL.from z x1, fun _ z => z⟩ (hs i n (by omega) w).2
theorem ds_for1 {a : Expr} {p : Pos} (hp : PassesOwn (model X.prog X.w) X.A X.env X.xe) (hc : X.calm = true) (hN : X.N.Nodup) (hm : X.mg "range" = none) (ha : DPA X C W [a] ta) (hb : DPB X C W body tb) (hg : Gl X "range" := by rfl) (hi : X.N[j]? = some x := by rfl)
    (hx : Loc X.env.scope x := by first | exact Or.inl rfl | exact Or.inr rfl) (hf : X.fn x = true ∨ X.env.scope.names.lookup x = some .local := by first | exact .inl rfl | exact .inr rfl | assumption)
    (hs : starEach [a] X.env = [(false, eval a X.env)] := by rfl) (hfs : ∀ y, foldedSetIterable (.Call (.Name "range" p) [a] [] pos) X.env y = pure y := by intro _; rfl) {fp : Pos} (hio : j ∉ C.io := by exact of_decide_eq_true rfl) : DPS X C W (.For (.Name x px) (.Call (.Name "range" p) [a] [] pos) body [] fp) (dForR rng1 ta j tb) := by
  refine ⟨(ps_for hp hc (pi_range1 hg hm ha.run hs) (pg_name hN hi hx hf) hb.run hfs).imp fun D σ H ⟨HP, env, as, R, h⟩ => ⟨HP, env, as, R, ha.mono _ _ env _ _ (fun e n z => z.at σ) (fun vals n q => ?_) h⟩, mono_forR ha.mono hb.mono⟩
  intro vs HP1 H1 as1 ts R1 x1 V
  obtain ⟨lo, hi', e, h2, h3, q⟩ := q
  unfold rng1 at e
  split at e
  · split at e
    · rename_i i e1
      cases Option.some.inj e
      obtain ⟨y, rfl, V'⟩ := V.one
      have w := R1.rp V' e1
      cases w
      refine ⟨hi', rfl, h3.1, h3.2, ?_⟩
      have z := lift_forR (K := X.K) (C := C) (W := W) (x1 := x1.cut) (R1 := R1.nots) hb.mono hio q
      simpa using z
    · cases e
  · cases e
theorem ds_for2 {a b : Expr} {p : Pos} (hp : PassesOwn (model X.prog X.w) X.A X.env X.xe) (hc : X.calm = true) (hN : X.N.Nodup) (hm : X.mg "range" = none) (ha : DPA X C W [a, b] ta) (hb : DPB X C W body tb) (hg : Gl X "range" := by rfl) (hi : X.N[j]? = some x := by rfl)
    (hx : Loc X.env.scope x := by first | exact Or.inl rfl | exact Or.inr rfl) (hf : X.fn x = true ∨ X.env.scope.names.lookup x = some .local := by first | exact .inl rfl | exact .inr rfl | assumption)
    (hs : starEach [a, b] X.env = [(false, eval a X.env), (false, eval b X.env)] := by rfl) (hs2 : starEach [b] X.env = [(false, eval b X.env)] := by rfl) (hfs : ∀ y, foldedSetIterable (.Call (.Name "range" p) [a, b] [] pos) X.env y = pure y := by intro _; rfl) {fp : Pos} (hio : j ∉ C.io := by exact of_decide_eq_true rfl) : DPS X C W (.For (.Name x px) (.Call (.Name "range" p) [a, b] [] pos) body [] fp) (dForR rng2 ta j tb) := by
  refine ⟨(ps_for hp hc (pi_range2 hg hm ha.run hs hs2) (pg_name hN hi hx hf) hb.run hfs).imp fun D σ H ⟨HP, env, as, R, h⟩ => ⟨HP, env, as, R, ha.mono _ _ env _ _ (fun e n z => z.at σ) (fun vals n q => ?_) h⟩, mono_forR ha.mono hb.mono⟩
  intro vs HP1 H1 as1 ts R1 x1 V
  obtain ⟨lo, hi', e, h2, h3, q⟩ := q
  unfold rng2 at e
  split at e
  · split at e
    · rename_i i j' e1 e2
      cases Option.some.inj e
      obtain ⟨y1, y2, t1, t2, rfl, rfl, V1, V2⟩ := V.two
      have w1 := R1.rp V1 e1
      have w2 := R1.rp V2 e2
      cases w1; cases w2
      exact ⟨lo, hi', rfl, ⟨h2.1, h2.2, h3.1, h3.2⟩, lift_forR (K := X.K) (C := C) (W := W) (x1 := x1.cut) (R1 := R1.nots) hb.mono hio q⟩
    · cases e
  · cases e
end

/-! ### over a list -/
/-- what is walked: the items, how an item is held, the environment behind -/
def walkL (n : En) (v : Vl) : Option (List PyData × (PyData → Sl) × En) := match v with
  | .tmp (.sh (.list xs)) => some (xs, .sh, n)
  | .tmp (.own xs) => some (xs, .sh, n)
  | .tmp (.bor (.list xs)) => some (xs, chS (.bor .none), n)
  | .loc l => match n[l]? with
    | some (some (.own xs)) => some (xs, .sh, n.set l (some (.sh (.list xs))))
    | _ => none
  | _ => none
/-- a list that is walked: from the state in which it came on, its items are these -/
theorem Rel.walkT {K : PySem.W.Frag} {C : Ct} {HP H : Hp} {σ : L2.St} {n n1 : En} {as ts t2 : List Addr} {v : Vl} {x : V} {xs : List PyData} {f : PyData → Sl} (r : Rel K C HP σ H n as (ts ++ t2)) (q : RepV K C HP H σ v x ts) (e : walkL n v = some (xs, f, n1)) :
    ∃ a HP1 as1, x = .ref a ∧ Rel K C HP1 σ H n1 as1 t2 ∧ Stp HP H (as ++ (ts ++ t2)) HP1 H (as1 ++ t2) ∧ ∀ HP' σ' H' n' as' ts', Rel K C HP' σ' H' n' as' ts' → Same HP1 HP' →
      ∃ vs, H' a = some (.lst vs) ∧ vs.length = xs.length ∧ ∀ (i : Nat) d, xs[i]? = some d → ∃ w, vs[i]? = some w ∧ RepS K C HP' H' (f d) w [] := by
  have shl : ∀ {HP1 : Hp} {as1 : List Addr} {n1 : En} {a : Addr}, Rp HP1 (.ref a) (.list xs) → Rel K C HP1 σ H n1 as1 t2 → Stp HP H (as ++ (ts ++ t2)) HP1 H (as1 ++ t2) →
      ∃ a' HP1 as1, V.ref a = .ref a' ∧ Rel K C HP1 σ H n1 as1 t2 ∧ Stp HP H (as ++ (ts ++ t2)) HP1 H (as1 ++ t2) ∧ ∀ HP' σ' H' n' as' ts', Rel K C HP' σ' H' n' as' ts' → Same HP1 HP' →
      ∃ vs, H' a' = some (.lst vs) ∧ vs.length = xs.length ∧ ∀ (i : Nat) d, xs[i]? = some d → ∃ w, vs[i]? = some w ∧ RepS K C HP' H' (.sh d) w [] := fun {HP1 as1 n1 a} q r1 x1 => by
    cases q with
    | lst g k => exact ⟨_, HP1, as1, rfl, r1, x1, fun HP' σ' H' n' as' ts' r' s => ⟨_, r'.exP _ _ (s _ _ g), k.length, fun i d hd => by
        obtain ⟨w, w1, w2⟩ := k.get hd
        exact ⟨w, w1, w2.mono s, rfl⟩⟩⟩
  unfold walkL at e
  split at e
  · cases Option.some.inj e
    obtain ⟨q, rfl⟩ := q
    have q' := q
    cases q' with
    | lst g k => exact shl q r (Stp.refl.less fun a ha => by simp [ha])
  · cases Option.some.inj e
    obtain ⟨a, vs, rfl, rfl, h3, k⟩ := q
    have hn := (r.own a (by simp)).1
    exact shl (.lst upd_same (k.mono (Same.put hn))) (Rel.freezeT (t2 := t2) r h3) (Stp.freeze h3 hn (by simp) fun b hb => by simp at hb ⊢; rcases hb with z | z <;> simp [z])
  · cases Option.some.inj e
    obtain ⟨q, rfl⟩ := q
    cases q with
    | lst g k => exact ⟨_, HP, as, rfl, r, Stp.refl.less fun a ha => by simp [ha], fun HP' σ' H' n' as' ts' r' s => ⟨_, r'.exB _ _ g, k.length, fun i d hd => by
        obtain ⟨w, w1, w2⟩ := k.get hd
        refine ⟨w, w1, ?_⟩
        unfold chS
        dsimp only
        by_cases z : scal d = true
        · rw [if_pos z]; exact ⟨w2.scal z, rfl⟩
        · rw [if_neg z]; exact ⟨w2, rfl⟩⟩⟩
  · rename_i l
    split at e
    · rename_i ys e1
      cases Option.some.inj e
      have es : L3.share (.loc l) n = some (.list xs, n.set l (some (.sh (.list xs)))) := by simp [L3.share, e1]
      obtain ⟨HP1, as1, r1, g1, x1⟩ := r.share q es
      have g2 := g1
      cases g2 with
      | lst g k => exact shl g1 r1 x1
    · cases e
  · cases e
theorem Rel.walk {K : PySem.W.Frag} {C : Ct} {HP H : Hp} {σ : L2.St} {n n1 : En} {as ts : List Addr} {v : Vl} {x : V} {xs : List PyData} {f : PyData → Sl} (r : Rel K C HP σ H n as ts) (q : RepV K C HP H σ v x ts) (e : walkL n v = some (xs, f, n1)) :
    ∃ a HP1 as1, x = .ref a ∧ Rel K C HP1 σ H n1 as1 [] ∧ Stp HP H (as ++ ts) HP1 H as1 ∧ ∀ HP' σ' H' n' as' ts', Rel K C HP' σ' H' n' as' ts' → Same HP1 HP' →
      ∃ vs, H' a = some (.lst vs) ∧ vs.length = xs.length ∧ ∀ (i : Nat) d, xs[i]? = some d → ∃ w, vs[i]? = some w ∧ RepS K C HP' H' (f d) w [] := by
  have r' : Rel K C HP σ H n as (ts ++ []) := by rw [List.append_nil]; exact r
  obtain ⟨a, HP1, as1, h1, h2, h3, h4⟩ := r'.walkT q e
  exact ⟨a, HP1, as1, h1, h2, by simpa using h3, h4⟩
def dForL (te : DE) (j : Nat) (tb : DS) : DS := fun ex env D => te ex env fun v n0 => ∃ xs f n1, walkL n0 v = some (xs, f, n1) ∧ ∃ W : Nat → En → Prop, W 0 n1 ∧
  (∀ (i : Nat) d n, xs[i]? = some d → W i n → j < n.length ∧ tb ex (n.set j (some (f d))) { D with nx := W (i + 1), ct := W (i + 1), bk := D.nx }) ∧ ∀ n, W xs.length n → D.nx n
/-- for a, b in enumerate(xs) -/
def dForE (ta : DA) (j1 j2 : Nat) (tb : DS) : DS := fun ex env D => ta ex env fun vals n0 => ∃ v xs f n1, vals = [v] ∧ walkL n0 v = some (xs, f, n1) ∧ ∃ W : Nat → En → Prop, W 0 n1 ∧
  (∀ (i : Nat) d n, xs[i]? = some d → W i n → j1 < n.length ∧ j2 < n.length ∧ tb ex ((n.set j1 (some (.sh (.int i)))).set j2 (some (f d))) { D with nx := W (i + 1), ct := W (i + 1), bk := D.nx }) ∧ ∀ n, W xs.length n → D.nx n
theorem mono_forL {te : DE} {j : Nat} {tb : DS} (ma : MonoE te) (mb : MonoS tb) : MonoS (dForL te j tb) := fun ex ex' env D D' hx hd h =>
  ma ex ex' env _ _ hx (fun vals n0 ⟨xs, f, n1, h1, W, w0, hs, hd2⟩ => ⟨xs, f, n1, h1, W, w0, fun i d n hl w => ⟨(hs i d n hl w).1, mb ex ex' _ { D with nx := W (i + 1), ct := W (i + 1), bk := D.nx } _ hx ⟨fun _ z => z, hd.rt, hd.nx, fun _ z => z⟩ (hs i d n hl w).2⟩, fun n w => hd.nx _ (hd2 n w)⟩) h
theorem mono_forE {te : DA} {j1 j2 : Nat} {tb : DS} (ma : MonoA te) (mb : MonoS tb) : MonoS (dForE te j1 j2 tb) := fun ex ex' env D D' hx hd h =>
  ma ex ex' env _ _ hx (fun vals n0 ⟨v, xs, f, n1, h0, h1, W, w0, hs, hd2⟩ => ⟨v, xs, f, n1, h0, h1, W, w0, fun i d n hl w => ⟨(hs i d n hl w).1, (hs i d n hl w).2.1, mb ex ex' _ { D with nx := W (i + 1), ct := W (i + 1), bk := D.nx } _ hx ⟨fun _ z => z, hd.rt, hd.nx, fun _ z => z⟩ (hs i d n hl w).2.2⟩, fun n w => hd.nx _ (hd2 n w)⟩) h
section
variable {X : Cx} {C : Ct} {W : WX} {pos : Pos} {x : Str} {px : Pos} {j : Nat} {body : List Stmt} {tb : DS} {te : DE}
theorem ds_forL {e : Expr} (hp : PassesOwn (model X.prog X.w) X.A X.env X.xe) (hc : X.calm = true) (hN : X.N.Nodup) (he : DP X C W e te) (hb : DPB X C W body tb) (hi : X.N[j]? = some x := by rfl)
    (hx : Loc X.env.scope x := by first | exact Or.inl rfl | exact Or.inr rfl) (hf : X.fn x = true ∨ X.env.scope.names.lookup x = some .local := by first | exact .inl rfl | exact .inr rfl | assumption)
    (hfs : ∀ y, foldedSetIterable e X.env y = pure y := by intro _; rfl) {fp : Pos} (hio : j ∉ C.io := by exact of_decide_eq_true rfl) : DPS X C W (.For (.Name x px) e body [] fp) (dForL te j tb) := by
  refine ⟨(ps_for hp hc (pi_list he.run) (pg_name hN hi hx hf) hb.run hfs).imp fun D σ H ⟨HP, env, as, R, h⟩ => ⟨HP, env, as, R, he.mono _ _ env _ _ (fun e n z => z.at σ) (fun v n q => ?_) h⟩, mono_forL he.mono hb.mono⟩
  intro y HP1 H1 as1 ts R1 x1 V
  obtain ⟨xs, f, n1, e1, Wd, w0, hs, hd⟩ := q
  obtain ⟨a, HP2, as2, rfl, R2, x2, items⟩ := R1.walk V e1
  obtain ⟨vs0, g0, _, _⟩ := items HP2 σ H1 n1 as2 [] R2 (Same.refl _)
  refine ⟨a, rfl, ⟨_, SqL.of g0⟩, ?_⟩
  have xx := x1.trans x2
  refine for_core (n := xs.length) (st := fun i n => match xs[i]? with | some d => n.set j (some (f d)) | none => n) hb.mono Wd R2 w0 (fun i σ' H' HP' env' as' R' s w => ?_) (fun i σ' H' HP' env' as' v' H'' R' s hi' w y Q k => ?_) (fun i n hi' w => ?_) fun n w => nxL.from (hd n w) xx
  · obtain ⟨vs, g, len, get⟩ := items HP' σ' H' env' as' [] R' s
    refine ⟨fun hlt => ?_, fun hge => ⟨vs, SqL.of g, by omega⟩⟩
    obtain ⟨w', w1, _⟩ := get i _ (List.getElem?_eq_getElem hlt)
    exact ⟨vs, w', SqL.of g, w1⟩
  · obtain ⟨rfl, hy⟩ := y
    obtain ⟨vs, g, len, get⟩ := items HP' σ' H'' env' as' [] R' s
    have hd' := List.getElem?_eq_getElem hi'
    obtain ⟨w', w1, w2⟩ := get i _ hd'
    have ev : v' = w' := Option.some.inj ((hy vs (SqL.of g)).symm.trans w1)
    subst ev
    obtain ⟨hl, _⟩ := hs i _ env' hd' w
    have R2 : Rel X.K C HP' σ' H'' env' as' ([] ++ []) := R'
    obtain ⟨as3, R3, hm⟩ := R2.store (v := v') w2 hl (.inl hio)
    rw [hd'] at k
    exact k _ HP' H'' as3 R3 (Stp.refl.less fun a ha => by simpa using hm a ha)
  · have hd' := List.getElem?_eq_getElem hi'
    rw [hd']
    exact hb.mono _ _ _ { endsOf X.K C HP H as D with nx := Wd (i + 1), ct := Wd (i + 1), bk := (endsOf X.K C HP H as D).nx } _ (fun e n z => z.from xx) ⟨fun _ z => z, fun _ _ z => rtL.from z xx, fun _ z => nxL.from z xx, fun _ z => z⟩ (hs i _ n hd' w).2
theorem ds_forE {e : Expr} {ta : DA} {j1 j2 : Nat} {elts : List Expr} {kk : Nat} {p tpos : Pos} (hp : PassesOwn (model X.prog X.w) X.A X.env X.xe) (hc : X.calm = true) (hm : X.mg "enumerate" = none) (ha : DPA X C W [e] ta) (hg : NamesG X elts [j1, j2]) (hb : DPB X C W body tb) (hgl : Gl X "enumerate" := by rfl) (hs : starEach [e] X.env = [(false, eval e X.env)] := by rfl)
    (hn : (assignEach elts X.env).length = 2 := by rfl) (hst : (assignEach elts X.env).findIdx? (·.1) = none := by rfl) (hfs : ∀ y, foldedSetIterable (.Call (.Name "enumerate" p) [e] [] pos) X.env y = pure y := by intro _; rfl) {fp : Pos} (hio1 : j1 ∉ C.io := by exact of_decide_eq_true rfl) (hio2 : j2 ∉ C.io := by exact of_decide_eq_true rfl) :
    DPS X C W (.For (.Tuple elts kk tpos) (.Call (.Name "enumerate" p) [e] [] pos) body [] fp) (dForE ta j1 j2 tb) := by
  refine ⟨(ps_for hp hc (pi_enum hgl hm ha.run hs) (pg_tup hc hg.run hn hst) hb.run hfs).imp fun D σ H ⟨HP, env, as, R, h⟩ => ⟨HP, env, as, R, ha.mono _ _ env _ _ (fun e n z => z.at σ) (fun v n q => ?_) h⟩, mono_forE ha.mono hb.mono⟩
  intro ys HP1 H1 as1 ts R1 x1 V
  obtain ⟨v, xs, f, n1, rfl, e1, Wd, w0, hs, hd⟩ := q
  obtain ⟨y, rfl, V'⟩ := V.one
  obtain ⟨a, HP2, as2, rfl, R2, x2, items⟩ := R1.walk V' e1
  obtain ⟨vs0, g0, _, _⟩ := items HP2 σ H1 n1 as2 [] R2 (Same.refl _)
  refine ⟨a, _, rfl, SqL.of g0, ?_⟩
  have xx := x1.trans x2
  refine for_core (n := xs.length) (st := fun i n => match xs[i]? with | some d => (n.set j1 (some (.sh (.int i)))).set j2 (some (f d)) | none => n) hb.mono Wd R2 w0 (fun i σ' H' HP' env' as' R' s w => ?_) (fun i σ' H' HP' env' as' v' H'' R' s hi' w y Q k => ?_) (fun i n hi' w => ?_) fun n w => nxL.from (hd n w) xx
  · obtain ⟨vs, g, len, get⟩ := items HP' σ' H' env' as' [] R' s
    refine ⟨fun hlt => ?_, fun hge => ⟨vs, SqL.of g, by omega⟩⟩
    obtain ⟨w', w1, _⟩ := get i _ (List.getElem?_eq_getElem hlt)
    exact ⟨vs, w', SqL.of g, w1⟩
  · obtain ⟨T, x, rfl, hT, rfl, hy⟩ := y
    obtain ⟨vs, g, len, get⟩ := items HP' σ' H' env' as' [] R' s
    have hd' := List.getElem?_eq_getElem hi'
    obtain ⟨w', w1, w2⟩ := get i _ hd'
    have ev : x = w' := Option.some.inj ((hy vs (SqL.of g)).symm.trans w1)
    subst ev
    obtain ⟨hl1, hl2, _⟩ := hs i _ env' hd' w
    have R2 := R'.new (o := .tup [.int (i : Nat), x]) hT
    rw [hd'] at k
    have w3 : RepS X.K C HP' (upd H' T (.tup [.int (i : Nat), x])) (f xs[i]) x [] := RepS.frame (Same.refl _) w2 fun _ h => nomatch h
    refine ⟨T, _, rfl, SqT.of upd_same, rfl, ?_⟩
    have R3 : Rel X.K C HP' σ' (upd H' T (.tup [.int (i : Nat), x])) env' as' ([] ++ []) := R2
    obtain ⟨as4, R4, hm4⟩ := R3.store (s := .sh (.int (i : Nat))) (v := .int (i : Nat)) ⟨.int _, rfl⟩ hl1 (.inl hio1)
    have R5 : Rel X.K C HP' (σ'.set j1 (some (.int (i : Nat)))) (upd H' T (.tup [.int (i : Nat), x])) (env'.set j1 (some (.sh (.int (i : Nat))))) as4 ([] ++ []) := R4
    obtain ⟨as6, R6, hm6⟩ := R5.store w3 (by simpa using hl2) (.inl hio2)
    refine ⟨_, _, rfl, _, _, rfl, rfl, k _ HP' _ as6 R6 ((Stp.new hT).less fun a ha => ?_)⟩
    have z := hm6 a ha
    have z2 := hm4 a (by simpa using z)
    simpa using z2
  · have hd' := List.getElem?_eq_getElem hi'
    rw [hd']
    exact hb.mono _ _ _ { endsOf X.K C HP H as D with nx := Wd (i + 1), ct := Wd (i + 1), bk := (endsOf X.K C HP H as D).nx } _ (fun e n z => z.from xx) ⟨fun _ z => z, fun _ _ z => rtL.from z xx, fun _ z => nxL.from z xx, fun _ z => z⟩ (hs i _ n hd' w).2.2
end

/-! ### what changes an own list -/
theorem Rel.mut {K : PySem.W.Frag} {C : Ct} {HP H : Hp} {σ : L2.St} {env : En} {as ts : List Addr} {j : Nat} {xs : List PyData} (r : Rel K C HP σ H env as ts) (e : env[j]? = some (some (.own xs))) :
    ∃ a vs, σ[j]? = some (some (.ref a)) ∧ H a = some (.lst vs) ∧ RpAll HP vs xs ∧ a ∈ as ∧ ∀ vs' xs', RpAll HP vs' xs' → Rel K C HP σ (upd H a (.lst vs')) (env.set j (some (.own xs'))) as ts ∧ Stp HP H as HP (upd H a (.lst vs')) as := by
  obtain ⟨w, pre, t, post, h1, h2, h3, h4⟩ := r.rep.at j e
  cases w with
  | none => exact h3.elim
  | some w =>
    obtain ⟨a, vs, rfl, rfl, g3, g4⟩ := h3
    subst h2
    have ha : a ∈ pre ++ ([a] ++ post) := by simp
    refine ⟨a, vs, h1, g3, g4, ha, fun vs' xs' g5 => ⟨?_, ?_⟩⟩
    · have own := r.own a (by simp)
      have nd := r.nd
      have ne : ∀ b ∈ pre ++ post, b ≠ a := fun b hb z => by
        subst z
        have nd1 := (List.nodup_append.mp nd).1
        have nd2 := List.nodup_append.mp nd1
        rcases List.mem_append.mp hb with w | w
        · exact nd2.2.2 b w b (by simp) rfl
        · exact (List.nodup_cons.mp nd2.2.1).1 w
      have k := h4 HP (upd H a (.lst vs')) (some (.own xs')) (some (.ref a)) [a] (Same.refl _) (fun b hb => upd_ne (ne b hb)) ⟨a, vs', rfl, rfl, upd_same, g5⟩
      rw [set_same h1] at k
      refine ⟨fun b u e => ?_, fun b u e => ?_, k, r.nd, fun b hb => ?_, r.pin⟩
      · rw [upd_ne (fun z => by subst z; rw [own.1] at e; cases e)]; exact r.exP b u e
      · rw [upd_ne (fun z => by subst z; rw [own.2.1] at e; cases e)]; exact r.exB b u e
      · have q := r.own b hb
        refine ⟨q.1, q.2.1, ?_⟩
        by_cases z : b = a
        · rw [z, upd_same]; exact fun q => nomatch q
        · rw [upd_ne z]; exact q.2.2
    · refine ⟨Same.refl _, fun b u e n => ?_, fun b h => .inl h, fun _ _ h => .inl h, fun b h => ?_⟩
      · rw [upd_ne (fun z => n (by rw [z]; exact ha))]; exact e
      · by_cases z : b = a
        · rw [z, upd_same] at h; cases h
        · rw [upd_ne z] at h; exact h
/-- a method of the list in slot j -/
def OkM (K : PySem.W.Frag) (C : Ct) (j : Nat) (r : V → List V → Hp → VK → Prop) (k : List Vl → En → DK → Prop) : Prop :=
  ∀ (σ : L2.St) (HP H : Hp) (env : En) (as ts : List Addr) (x : V) (vals : List Vl) (vs : List V) (Qd : DK) (Q : VK), Rel K C HP σ H env as ts → σ[j]? = some (some x) → RepVs K C HP H σ vals vs ts → k vals env Qd →
    (∀ val n, Qd val n → Po K C σ HP H (as ++ ts) Q val n) → r x vs H Q
def dMut (j : Nat) (ta : DA) (k : List Vl → En → DK → Prop) : DE := fun ex env Q => (∃ xs, env[j]? = some (some (.own xs))) ∧ ta ex env fun vals n => k vals n Q
theorem mono_mut {j : Nat} {ta : DA} {k : List Vl → En → DK → Prop} (ma : MonoA ta) (mk : MonoN k) : MonoE (dMut j ta k) := fun ex ex' env Q Q' he hq ⟨h1, h2⟩ => ⟨h1, ma ex ex' env _ _ he (fun vals n h => mk vals n Q Q' hq h) h2⟩
section
variable {X : Cx} {C : Ct} {W : WX} {j : Nat} {x name : Str} {p apos cpos : Pos} {id : String} {r : V → List V → Hp → VK → Prop} {k : List Vl → En → DK → Prop} {e : Expr} {es : List Expr} {ta : DA}
theorem lift_mut {K : PySem.W.Frag} {σ : L2.St} {H : Hp} {Q : VK} (ma : MonoA ta) (ok : OkM K C j r k) (h : lift K C W (dMut j ta k) σ H Q) : ∃ v, σ[j]? = some (some v) ∧ tyV K "list" v H ∧ liftA K C W ta σ H fun xs H2 => r v xs H2 Q := by
  obtain ⟨HP, env, as, R, ⟨xs, h1⟩, h2⟩ := h
  obtain ⟨a, vs, e1, e2, _, _, _⟩ := R.mut h1
  refine ⟨.ref a, e1, .inl ⟨rfl, vs, SqL.of e2⟩, HP, env, as, R, ma _ _ env _ _ (fun _ _ z => z) (fun vals n q => ?_) h2⟩
  intro ys HP1 H1 as1 ts R1 x1 V
  exact ok σ HP1 H1 n as1 ts (.ref a) vals ys _ Q R1 e1 V q fun val m z v HP' H' as' ts' R' X' V' => z v HP' H' as' ts' R' (x1.trans X') V'
theorem do_mut (hm : MtR X id r) (ok : OkM X.K C j r k) (mk : MonoN k) (slot : Slot "list" name id) (hty : typeOf (.builtin id) = pure (.type "method_descriptor")) (ha : DPA X C W (e :: es) ta) (hN : X.N[j]? = some x := by rfl) (hv : Vis X.env.scope x := by first | exact Or.inl rfl | exact Or.inr (Or.inl rfl) | exact Or.inr (Or.inr rfl))
    (hd : (x == ("__debug__" : Str)) = false := by decide) (hcd : (x == ("__classdict__" : Str)) = false := by decide) (hbase : attributeBase (.Name x p) name X.env (eval (.Name x p) X.env) = eval (.Name x p) X.env := by rfl)
    (hfew : ((backTo cpos (starEach (e :: es) X.env)).all (fun x => !x.1) && (backToKw cpos (keywordEach [] X.env)).all (fun x => x.1.isSome)
      && decide ((e :: es).length + ([] : List Keyword).length + (if ([] : List Keyword).isEmpty then 0 else 1) < 30)) = true := by rfl)
    (hline : (apos.endLine == cpos.line) = true := by rfl) (hs : starEach (e :: es) X.env = (false, eval e X.env) :: starEach es X.env := by rfl) (hplain : (backTo cpos (starEach es X.env)).any (·.1) = false := by rfl) :
    DP X C W (.Call (.Attribute (.Name x p) name apos) (e :: es) [] cpos) (dMut j ta k) := by
  refine ⟨(pe_bm PySem.F.plainAttrs_list slot hty hm (pe_var hN hv hd hcd) ha.run hbase hfew hline hs hplain).imp fun σ H Q h => ?_, mono_mut ha.mono mk⟩
  exact lift_mut ha.mono ok h
theorem do_mut0 (hm : MtR X id r) (ok : OkM X.K C j r k) (mk : MonoN k) (slot : Slot "list" name id) (hty : typeOf (.builtin id) = pure (.type "method_descriptor")) (hN : X.N[j]? = some x := by rfl) (hv : Vis X.env.scope x := by first | exact Or.inl rfl | exact Or.inr (Or.inl rfl) | exact Or.inr (Or.inr rfl))
    (hd : (x == ("__debug__" : Str)) = false := by decide) (hcd : (x == ("__classdict__" : Str)) = false := by decide) (hbase : attributeBase (.Name x p) name X.env (eval (.Name x p) X.env) = eval (.Name x p) X.env := by rfl) (hline : (apos.endLine == cpos.line) = true := by rfl) :
    DP X C W (.Call (.Attribute (.Name x p) name apos) [] [] cpos) (dMut j daNil k) := by
  refine ⟨(pe_bm0 PySem.F.plainAttrs_list slot hty hm (pe_var hN hv hd hcd) hbase hline).imp fun σ H Q h => ?_, mono_mut (da_nil (X := X) (C := C) (W := W)).mono mk⟩
  obtain ⟨v, e1, e2, h⟩ := lift_mut (da_nil (X := X) (C := C) (W := W)).mono ok h
  refine ⟨v, e1, e2, ?_⟩
  obtain ⟨HP, env, as, R, h⟩ := h
  exact h [] HP H as [] R (Stp.refl.less fun a ha => by simpa using ha) ⟨rfl, rfl⟩
end
/-- a changed list, its method's answer -/
theorem Po.mut {K : PySem.W.Frag} {C : Ct} {HP H H' : Hp} {σ : L2.St} {env : En} {as as' ts : List Addr} {v : V} {d : PyData} {Q : VK} (p : Po K C σ HP H (as ++ ts) Q (.tmp (.sh d)) env) {HP' : Hp} (r : Rel K C HP' σ H' env as' []) (x : Stp HP H (as ++ ts) HP' H' as') (q : Rp HP' v d) : Q v H' :=
  p v HP' H' as' [] r (x.less fun a ha => by simpa using ha) ⟨q, rfl⟩
def kApp (j : Nat) : List Vl → En → DK → Prop := fun vals n Q => match vals with
  | [v] => ∃ d n' xs, share v n = some (d, n') ∧ n'[j]? = some (some (.own xs)) ∧ xs.length < sizeLine ∧ Q (.tmp (.sh .none)) (n'.set j (some (.own (xs ++ [d]))))
  | _ => False
def kPop (j : Nat) : List Vl → En → DK → Prop := fun vals n Q => match vals with
  | [] => ∃ xs d, n[j]? = some (some (.own xs)) ∧ xs[xs.length - 1]? = some d ∧ Q (.tmp (.sh d)) (n.set j (some (.own xs.dropLast)))
  | _ => False
def kPopAt (j : Nat) : List Vl → En → DK → Prop := fun vals n Q => match vals with
  | [v] => ∃ xs d i k, n[j]? = some (some (.own xs)) ∧ dat n v = some (.int i) ∧ ixN xs.length i = some k ∧ xs[k]? = some d ∧ xs.length ≤ sizeLine ∧ Q (.tmp (.sh d)) (n.set j (some (.own (xs.eraseIdx k))))
  | _ => False
def kExt (j : Nat) : List Vl → En → DK → Prop := fun vals n Q => match vals with
  | [v] => ∃ xs ys, n[j]? = some (some (.own xs)) ∧ dat n v = some (.list ys) ∧ perm n v = true ∧ xs.length + ys.length ≤ sizeLine ∧ Q (.tmp (.sh .none)) (n.set j (some (.own (xs ++ ys))))
  | _ => False
def kRev (j : Nat) : List Vl → En → DK → Prop := fun vals n Q => match vals with
  | [] => ∃ xs, n[j]? = some (some (.own xs)) ∧ Q (.tmp (.sh .none)) (n.set j (some (.own xs.reverse)))
  | _ => False
def kClr (j : Nat) : List Vl → En → DK → Prop := fun vals n Q => match vals with
  | [] => ∃ xs, n[j]? = some (some (.own xs)) ∧ Q (.tmp (.sh .none)) (n.set j (some (.own [])))
  | _ => False
theorem mono_app {j} : MonoN (kApp j) := fun a n Q Q' hq h => by
  unfold kApp at h ⊢
  split at h
  · obtain ⟨d, n', xs, h1, h2, h3, h4⟩ := h; exact ⟨d, n', xs, h1, h2, h3, hq _ _ h4⟩
  · exact h
theorem mono_pop {j} : MonoN (kPop j) := fun a n Q Q' hq h => by
  unfold kPop at h ⊢
  split at h
  · obtain ⟨xs, d, h1, h2, h3⟩ := h; exact ⟨xs, d, h1, h2, hq _ _ h3⟩
  · exact h
theorem mono_popAt {j} : MonoN (kPopAt j) := fun a n Q Q' hq h => by
  unfold kPopAt at h ⊢
  split at h
  · obtain ⟨xs, d, i, k, h1, h2, h3, h4, h5, h6⟩ := h; exact ⟨xs, d, i, k, h1, h2, h3, h4, h5, hq _ _ h6⟩
  · exact h
theorem mono_ext {j} : MonoN (kExt j) := fun a n Q Q' hq h => by
  unfold kExt at h ⊢
  split at h
  · obtain ⟨xs, ys, h1, h2, h3, h4, h5⟩ := h; exact ⟨xs, ys, h1, h2, h3, h4, hq _ _ h5⟩
  · exact h
theorem mono_rev {j} : MonoN (kRev j) := fun a n Q Q' hq h => by
  unfold kRev at h ⊢
  split at h
  · obtain ⟨xs, h1, h2⟩ := h; exact ⟨xs, h1, hq _ _ h2⟩
  · exact h
theorem mono_clr {j} : MonoN (kClr j) := fun a n Q Q' hq h => by
  unfold kClr at h ⊢
  split at h
  · obtain ⟨xs, h1, h2⟩ := h; exact ⟨xs, h1, hq _ _ h2⟩
  · exact h
section
variable {K : PySem.W.Frag} {C : Ct} {j : Nat}
theorem app_mem {as ts : List Addr} {HP H HP' H' : Hp} {bs : List Addr} (x : Stp HP H as HP' H' bs) : Stp HP H (as ++ ts) HP' H' bs := x.from fun a h => List.mem_append_left _ h
theorem ok_app : OkM K C j rAppend (kApp j) := fun σ HP H env as ts x vals vs Qd Q r hx q h k => by
  unfold kApp at h
  split at h
  · obtain ⟨d, n', xs, e1, e2, e3, hq⟩ := h
    obtain ⟨y, rfl, q'⟩ := q.one
    have r' : Rel K C HP σ H env as (ts ++ []) := by rw [List.append_nil]; exact r
    obtain ⟨HP1, as1, r1, g1, x1⟩ := r'.share q' e1
    rw [List.append_nil, List.append_nil] at x1
    obtain ⟨a, ws, f1, f2, f3, _, f4⟩ := r1.mut e2
    rw [hx] at f1; cases f1
    obtain ⟨r2, x2⟩ := f4 (ws ++ [y]) (xs ++ [d]) (f3.append (.cons g1 .nil))
    exact ⟨a, ws, y, rfl, rfl, f2, by rw [f3.length]; exact e3, (k _ _ hq).mut r2 (x1.trans x2) .non⟩
  · exact h.elim
theorem ok_pop : OkM K C j rPop (kPop j) := fun σ HP H env as ts x vals vs Qd Q r hx q h k => by
  unfold kPop at h
  split at h
  · obtain ⟨xs, d, e1, e2, hq⟩ := h
    obtain ⟨rfl, rfl⟩ := q
    obtain ⟨a, ws, f1, f2, f3, _, f4⟩ := r.mut e1
    rw [hx] at f1; cases f1
    obtain ⟨r2, x2⟩ := f4 ws.dropLast xs.dropLast f3.dropLast
    obtain ⟨w, w1, w2⟩ := f3.get e2
    exact ⟨a, ws, w, rfl, rfl, f2, by rw [f3.length]; exact w1, (k _ _ hq).mut r2 (app_mem x2) w2⟩
  · exact h.elim
theorem ok_popAt : OkM K C j rPopAt (kPopAt j) := fun σ HP H env as ts x vals vs Qd Q r hx q h k => by
  unfold kPopAt at h
  split at h
  · obtain ⟨xs, d, i, m, e1, e2, e3, e4, e5, hq⟩ := h
    obtain ⟨y, rfl, q'⟩ := q.one
    have w0 := r.rp q' e2
    cases w0
    obtain ⟨a, ws, f1, f2, f3, _, f4⟩ := r.nots.mut e1
    rw [hx] at f1; cases f1
    obtain ⟨r2, x2⟩ := f4 (ws.eraseIdx m) (xs.eraseIdx m) (f3.eraseIdx m)
    obtain ⟨w, w1, w2⟩ := f3.get e4
    obtain ⟨s1, s2, s3, s4⟩ := ixN_seq e3
    have hz := line63
    exact ⟨a, ws, i, m, w, rfl, rfl, f2, by omega, by omega, by rw [f3.length]; exact s1, w1, (k _ _ hq).mut r2 (app_mem x2) w2⟩
  · exact h.elim
theorem ok_ext : OkM K C j rExtend (kExt j) := fun σ HP H env as ts x vals vs Qd Q r hx q h k => by
  unfold kExt at h
  split at h
  · obtain ⟨xs, ys, e1, e2, e3, e4, hq⟩ := h
    obtain ⟨y, rfl, q'⟩ := q.one
    obtain ⟨b, us, rfl, g1, g2⟩ := r.kids q' e2 e3
    obtain ⟨a, ws, f1, f2, f3, _, f4⟩ := r.nots.mut e1
    rw [hx] at f1; cases f1
    obtain ⟨r2, x2⟩ := f4 (ws ++ us) (xs ++ ys) (f3.append g2)
    exact ⟨a, b, ws, us, rfl, rfl, f2, g1, by rw [f3.length, g2.length]; exact e4, (k _ _ hq).mut r2 (app_mem x2) .non⟩
  · exact h.elim
theorem ok_rev : OkM K C j rReverse (kRev j) := fun σ HP H env as ts x vals vs Qd Q r hx q h k => by
  unfold kRev at h
  split at h
  · obtain ⟨xs, e1, hq⟩ := h
    obtain ⟨rfl, rfl⟩ := q
    obtain ⟨a, ws, f1, f2, f3, _, f4⟩ := r.mut e1
    rw [hx] at f1; cases f1
    obtain ⟨r2, x2⟩ := f4 ws.reverse xs.reverse f3.reverse
    exact ⟨a, ws, rfl, rfl, f2, (k _ _ hq).mut r2 (app_mem x2) .non⟩
  · exact h.elim
theorem ok_clr : OkM K C j rClear (kClr j) := fun σ HP H env as ts x vals vs Qd Q r hx q h k => by
  unfold kClr at h
  split at h
  · obtain ⟨xs, e1, hq⟩ := h
    obtain ⟨rfl, rfl⟩ := q
    obtain ⟨a, ws, f1, f2, f3, _, f4⟩ := r.mut e1
    rw [hx] at f1; cases f1
    obtain ⟨r2, x2⟩ := f4 [] [] .nil
    exact ⟨a, ws, rfl, rfl, f2, (k _ _ hq).mut r2 (app_mem x2) .non⟩
  · exact h.elim
end
end L3

/-! L3Z: what a def promises where no repr is under way (A.guards = some []): HandS's rules with that one premise more (the steps are those of HandS.Call, HandS.Ends, HandS.HeadEnd, turned to it). -/
namespace L3
open PySem PySem.Spec PyProof.Rows L2
/-- as FnOk, where no repr is under way -/
structure FnG (P : Program) (w : World) (K : PySem.W.Frag) (mg : Str → Option Value) (base : Heap) (CX : CXT) (k : Nat) (f : Addr) (fd : FuncData) (ps : List Str) (sp : Sp) : Prop where
  len : ∀ vs H Q E, sp vs H Q E → vs.length = ps.length
  run : ∀ (A : Around) (outer : List Env) (s : Shared) (H : Hp) (args : Args) (us : List Value) (vs : List V) (Q : VK) (E : XK), Room k A → A.guards = some [] → Env0 P w K mg base A outer s H → BindsTo s fd args (ps.zip us) → Vals vs us → sp vs H Q E →
    codeAny (model P w) A (.call (.ref f) args) (CR CX outer P w H s Q E) s
theorem FnG.mono {P : Program} {w : World} {K : PySem.W.Frag} {mg : Str → Option Value} {base : Heap} {CX : CXT} {j k : Nat} {f : Addr} {fd : FuncData} {ps : List Str} {sp : Sp} (F : FnG P w K mg base CX j f fd ps sp) (h : j ≤ k) : FnG P w K mg base CX k f fd ps sp :=
  ⟨F.len, fun A outer s H args us vs Q E hr => F.run A outer s H args us vs Q E (hr.mono h)⟩
theorem fn_ofG {CX : CXT} {P : Program} {w : World} {K : PySem.W.Frag} {mg : Str → Option Value} {base : Heap} {k : Nat} {f : Addr} {name qual : Str} {params : Arguments} {body : List Stmt} {scope : Scope} {dV kV doc pm cdv ct oc : Value} {an od : Option Addr}
    {osl : Array (Option Value)} {N ps : List Str} {sp : Sp} (lk : K.lookup f = some ⟨oc, od, .func (PySem.W.fnOf name qual params body scope dV kV doc pm an cdv ct), osl⟩) (hcd : PySem.W.codeIn K cdv qual = true) (S : FnScope N ps scope)
    (len : ∀ vs H Q E, sp vs H Q E → vs.length = ps.length)
    (hbody : ∀ (A : Around) (outer : List Env) (s : Shared) (H : Hp) (vs : List V) (Q : VK) (E : XK), A.guards = some [] → Room k (A.deeper (envOfC qual scope s.heap.objs.size f cdv)) → sp vs H Q E →
      ∃ t, PSs (cxOf CX P w K mg base N qual scope f cdv A outer s H E) body t ∧ t { nx := fun _ H' => Q .non H', rt := Q } (L2.start N vs) H) :
    FnG P w K mg base CX (k + 1) f (PySem.W.fnOf name qual params body scope dV kV doc pm an cdv ct) ps sp := by
  refine ⟨len, fun A outer s H args us vs Q E hr gd e0 hb r hsp => ?_⟩
  have hl := len _ _ _ _ hsp
  have KX : K.In s.heap := e0.mod.kin.keeps fun b o e => (e0.bs b o e).1
  have lim : s.heap.NoLimit := e0.mod.nolimit.keeps fun b o e => (e0.bs b o e).1
  have hkind : ∀ y ∈ ps.zip us, scope.names.lookup y.1 = some .local ∨ (scope.names.lookup y.1 = some .cell ∧ ((cellsFrom (s.heap.objs.size + 1) scope.names []).lookup y.1).isSome = true) := fun ⟨n, v⟩ hy => by
    rcases S.par n (List.of_mem_zip hy).1 with q | q
    · exact .inl q
    · exact .inr ⟨q, PySem.W.cellsFrom_some _ _ _ (.inl q)⟩
  refine codeAny_call_function hr.depth (KX _ _ lk) rfl S.co S.gen rfl (PySem.W.codeRec_of KX hcd) (hb _ _ _ _ ?_)
  refine wpAny_newFunctionEnv_cells S.kind hkind fun env he s1 x => ?_
  subst he
  refine ⟨lim.keeps x.toInCall.keep, codeAny_func ?_⟩
  obtain ⟨t, ht, hq⟩ := hbody A outer s H vs Q E gd (hr.deeper _) hsp
  have I : Inv (cxOf CX P w K mg base N qual scope f cdv A outer s H E) [] (L2.start N vs) H s1 := inv_start S hr.hd e0 hl r x
  refine wpAny_mono (ht.run [] s1 (L2.start N vs) H _ I hq) (fun fl s' hs => ?_) fun e s' hs => hs
  have fin : ∀ {σ' : L2.St} {H' : Hp} {v : V} {u : Value}, Inv (cxOf CX P w K mg base N qual scope f cdv A outer s H E) [] σ' H' s' → RelV v u → Q v H' → CE outer P w H s Q u s' :=
    fun {σ' H' v u} J rv q => ⟨v, H', J.os, J.bare, J.base, J.hok, rv, q⟩
  cases fl with
  | ret u =>
    obtain ⟨v, σ', H', J, rv, q⟩ := hs
    exact fin J rv q
  | next =>
    obtain ⟨σ', H', J, q⟩ := hs
    exact fin (v := V.non) (u := Value.none) J rfl q
  | brk =>
    obtain ⟨_, _, _, q⟩ := hs
    exact False.elim q
  | cont =>
    obtain ⟨_, _, _, q⟩ := hs
    exact False.elim q

section
variable {P : Program} {w : World} {K : PySem.W.Frag} {mg : Str → Option Value} {base : Heap}
theorem okG {x qual : Str} {st : Stmt} {f : Addr} {fd : FuncData} {N ps : List Str} {k : Nat} {sp : Sp} (F : Fun K x qual st f fd) (S : FnScope N ps (defScope st)) (len : ∀ vs H Q E, sp vs H Q E → vs.length = ps.length)
    (hbody : ∀ (cdv : Value) (A : Around) (outer : List Env) (s : Shared) (H : Hp) (vs : List V) (Q : VK) (E : XK), A.guards = some [] → Room k (A.deeper (envOfC qual (defScope st) s.heap.objs.size f cdv)) → sp vs H Q E →
      ∃ t, PSs (cxOf (L2.CX P w) P w K mg base N qual (defScope st) f cdv A outer s H E) (defBody st) t ∧ t { nx := fun _ H' => Q .non H', rt := Q } (L2.start N vs) H) : FnG P w K mg base (L2.CX P w) (k + 1) f fd ps sp := by
  obtain ⟨oc, od, kV, doc, pm, an, cdv, ct, osl, rfl, lk, hcd⟩ := F.ex
  exact fn_ofG lk hcd S len fun A outer s H vs Q E gd hr hsp => hbody cdv A outer s H vs Q E gd hr hsp
end
section
variable {X : Cx} {CX : CXT} {k : Nat} {f : Addr} {fd : FuncData} {ps : List Str} {sp : Sp} {dvs : List V} {ds : List Value} {E : L2.St → XK} {x : Str} {p pos : Pos} {e : Expr} {es : List Expr} {t : TA}
theorem run_fnG {pins : List (Addr × Obj)} {σ : L2.St} {H : Hp} {s : Shared} {Q : VK} {us : List Value} {vs : List V} (F : FnG X.prog X.w X.K X.mg X.base CX k f fd ps sp) (hr : Room k X.A) (gd : X.A.guards = some []) (hb : Binds X.K fd ps ds) (hd : Vals dvs ds) (hx : PassesAt CX X σ (E σ))
    (I : Inv X pins σ H s) (r : Vals vs us) (h : sp (vs ++ dvs) H Q (E σ)) : wpAny (model X.prog X.w) X.A (call (.ref f) us) (EP X pins σ Q) X.xe s := by
  have r2 : Vals (vs ++ dvs) (us ++ ds) := r.append hd
  have hl : (us ++ ds).length = ps.length := by rw [← r2.length]; exact F.len _ _ _ _ h
  refine wpAny_call (codeAny_mono (F.run X.A X.stack s H ⟨us, []⟩ (us ++ ds) (vs ++ dvs) Q (E σ) hr gd I.env0 (hb s us I.kIn hl) r2 h) fun r s' hq => ?_)
  match r, hq with
  | .error e, hq => exact hx pins H s e s' I hq
  | .ok (.ret u), hq => exact I.after hq
  | .ok .next, hq => exact False.elim hq
  | .ok .brk, hq => exact False.elim hq
  | .ok .cont, hq => exact False.elim hq
theorem pe_callG (F : FnG X.prog X.w X.K X.mg X.base CX k f fd ps sp) (hr : Room k X.A) (gd : X.A.guards = some []) (hg : Gl X x) (hm : X.mg x = some (.ref f)) (hk : PySem.W.keepIn X.K (.ref f) = true) (hb : Binds X.K fd ps ds) (hd : Vals dvs ds) (hx : ∀ σ, PassesAt CX X σ (E σ))
    (ha : PA X (e :: es) t) (hdb : (x == ("__debug__" : Str)) = false := by decide) (he : starEach (e :: es) X.env = (false, eval e X.env) :: starEach es X.env := by rfl) (hpl : (backTo pos (starEach es X.env)).any (·.1) = false := by rfl) :
    PE X (.Call (.Name x p) (e :: es) [] pos) (tCallSD sp dvs E t) := by
  refine ⟨fun pins s σ H Q I h => ?_⟩
  refine wpAny_Call_Name_kw (ld_glob I hg hm ?_ hdb)
  refine PySem.W.callWith_K (h₀ := X.base) I.ok.mod.kin hk (thn (ha.run pos pins s σ H _ I h) fun us s1 ⟨vs, H1, I1, r, q⟩ => ⟨I1.kIn, ?_⟩) he hpl
  exact run_fnG F hr gd hb hd (hx σ) I1 r q
end
theorem law_callG {P : Program} {w : World} {K : PySem.W.Frag} {mg mb : Str → Option Value} {CX : CXT} {k : Nat} {fa a : Addr} {fd : FuncData} {x : Str} {sp : Sp} {s₁ : Shared} {vs : List Value} {ns : List Int}
    (KX : K.In s₁.heap) (hns : s₁.heap.Ns mainGlobals mg) (hb : s₁.heap.Ns builtinsNs mb) (hbb : ∀ x : Str, x ≠ "__name__" → mb x = bootBuiltins x) (hlim : s₁.heap.NoLimit) (hg : s₁.gens = #[])
    (ha : s₁.heap.get? a = some { cls := .type "list", data := .seq vs.toArray }) (hi : IntsAre vs ns) (hl : ns.length ≤ sizeLine) (hr : Room k callerA)
    (F : ∀ base : Heap, K.In base → base.Ns mainGlobals mg → FnG P w K mg base CX k fa fd [x] sp) (hbind : ∀ (s : Shared) (u : Value), BindsTo s fd ⟨[u], []⟩ [(x, u)])
    (hsp : ∀ H : Hp, Only H → SqL K H a (ns.map V.int) → sp [.ref a] H (fun v _ => v = .bl true) fun _ _ _ => False)
    (hCX : ∀ H e s', CX [] H s₁ (fun _ _ _ => False) e s' → False) :
    codeAny (model P w) callerA (.call (.ref fa) ⟨[.ref a], []⟩) (fun r s' => r = .ok (.ret (.bool true)) ∧ OldK s₁.heap s'.heap ∧ s'.os = s₁.os ∧ AllBare s'.gens) s₁ := by
  have rv := vals_ints hi
  have lenV := hi.length
  -- from an abstract heap in which nothing but the script may be tracked
  have core : ∀ H : Hp, Only H → SqL K H a (ns.map V.int) → HOk P w H s₁.heap → (∀ b, H b ≠ none → b = a) → (H a ≠ none → K.lookup a = none) →
      codeAny (model P w) callerA (.call (.ref fa) ⟨[.ref a], []⟩) (fun r s' => r = .ok (.ret (.bool true)) ∧ OldK s₁.heap s'.heap ∧ s'.os = s₁.os ∧ AllBare s'.gens) s₁ := by
    intro H hO hS hok hA hK
    have base_of : ∀ {b : Addr} {o : Obj}, s₁.heap.get? b = some o → H b = none → (hidT s₁.heap H).get? b = some o := fun e n => hidT_get e n
    have noA : ∀ {b : Addr} {o : Obj} {es : Array DictEntry} {ep : Nat}, s₁.heap.get? b = some o → o.data = .dict es ep → H b = none := fun {b o es ep} e d => by
      cases q : H b with
      | none => rfl
      | some u =>
        have e' : b = a := hA b (by rw [q]; simp)
        subst e'
        rw [ha] at e; cases e
        have d' : Data.seq vs.toArray _ = Data.dict es ep := d
        cases d'
    have nsK : ∀ {b : Addr} {m : Str → Option Value}, s₁.heap.Ns b m → (hidT s₁.heap H).Ns b m := fun {b m} ⟨o, es, ep, e, d, r⟩ => ⟨o, es, ep, base_of e (noA e d), d, r⟩
    have hKb : K.In (hidT s₁.heap H) := fun b o e => base_of (KX b o e) (by
      cases q : H b with
      | none => rfl
      | some u =>
        have e' : b = a := hA b (by rw [q]; simp)
        subst e'
        rw [hK (by rw [q]; simp)] at e; cases e)
    have hM : Mod K mg (hidT s₁.heap H) := ⟨hKb, nsK hns, ⟨mb, nsK hb, hbb⟩, let ⟨mc, h1, h2⟩ := hlim; ⟨mc, nsK h1, h2⟩⟩
    have e0 : Env0 P w K mg (hidT s₁.heap H) callerA [] s₁ H := ⟨rfl, hM, fun b o e => of_hidT e, Nat.le_of_eq (hidT_size _ _), trivial, fun b hb => absurd (show b ∈ ([] : List Addr) from hb) (by simp), hok, .of_eq hg⟩
    refine codeAny_mono ((F _ hKb (nsK hns)).run callerA [] s₁ H ⟨[.ref a], []⟩ [.ref a] [.ref a] _ _ hr rfl e0 (hbind s₁ (.ref a)) (.cons rfl .nil) (hsp H hO hS)) fun r s' h => ?_
    cases r with
    | error e => exact (hCX H e s' h).elim
    | ok fl =>
      cases fl with
      | next => exact False.elim h
      | brk => exact False.elim h
      | cont => exact False.elim h
      | ret u =>
        obtain ⟨v, H', os, bare, un, hok', r', q⟩ := h
        have q' : v = .bl true := q
        subst q'
        obtain rfl : u = Value.bool true := r'
        refine ⟨rfl, OldK.of_keep fun b o e => ?_, os, bare⟩
        cases q : H b with
        | none => exact un.keep b o e q (by intro z; exact absurd (show b ∈ ([] : List Addr) from z) (by simp)) (by simp)
        | some u =>
          rcases hO b with z | ⟨ob, xs, z⟩
          · rw [q] at z; cases z
          · have z2 := un.frzs b ob _ z
            obtain ⟨e1, _⟩ := hok b _ z
            obtain ⟨e2, _⟩ := hok' b _ z2
            rw [e] at e1; cases e1
            exact e2
  cases hk : K.lookup a with
  | some o =>
    -- the script is one of the module's own objects
    have e := KX a o hk
    rw [ha] at e
    cases e
    refine core (fun _ => none) (fun _ => .inl rfl) (.inr ⟨_, vs.toArray, _, hk, rfl, rfl, rfl, by rw [List.size_toArray, lenV]; exact hl, by simpa using rv⟩) (fun b u z => by have z' : (none : Option HO) = some u := z; cases z') (fun b z => absurd rfl z) fun z => absurd rfl z
  | none =>
    refine core (fun b => if b = a then some (.frz { cls := .type "list", data := .seq vs.toArray } (.lst (ns.map V.int))) else none) (fun b => ?_) (.inl (.inr ⟨{ cls := .type "list", data := .seq vs.toArray }, if_pos rfl⟩)) (fun b u z => ?_) (fun b z => ?_) fun _ => hk
    · by_cases hb : b = a
      · exact .inr ⟨_, _, if_pos hb⟩
      · exact .inl (if_neg hb)
    · by_cases hb : b = a
      · have z' := (if_pos hb).symm.trans z
        cases z'
        subst hb
        exact ⟨ha, by rw [List.length_map]; exact hl, vs, _, rv, ha⟩
      · have z' := (if_neg hb).symm.trans z
        cases z'
    · by_cases hb : b = a
      · exact hb
      · exact absurd (if_neg hb) z
theorem walk_ofEG {l : PySem.W.OpenLaw} {n k : Nat} {q : Program} {loose : List Str} {XP : (Str → Option Value) → Heap → Prop} {YP : World → Heap → Prop} {d : DefRec} {CX : World → CXT} {x : Str}
    (hn : l.most = some n) (hn2 : n ≤ sizeLine) (hdf : d.params.defaults = []) (hr : Room k callerA)
    (F : ∀ (w : World) (mg : Str → Option Value) (fa : Addr) (h : Heap), YP w h → h.Ns mainGlobals mg → mg d.name = some (.ref fa) →
      ∃ (K : PySem.W.Frag) (fd : FuncData) (sp : Sp), K.In h ∧ (∀ (s : Shared) (u : Value), BindsTo s fd ⟨[u], []⟩ [(x, u)]) ∧
        (∀ (H : Hp) (a : Addr) (ns : List Int), ns.length ≤ n → Only H → SqL K H a (ns.map V.int) → sp [.ref a] H (fun v _ => v = .bl true) fun _ _ _ => False) ∧
        ∀ base : Heap, K.In base → base.Ns mainGlobals mg → FnG l.prog w K mg base (CX w) k fa fd [x] sp)
    (hCX : ∀ (w : World) (H : Hp) (s : Shared) (e : Value) (s' : Shared), CX w [] H s (fun _ _ _ => False) e s' → False) :
    PySem.W.WalkO q loose XP YP l.row.toRowW d [] (fun f vs => PySem.call f vs) := by
  refine Att.attach_call hn hdf fun w s₀ s₁ mg mb fa o pm cd doc a vs ns G Y ho hd hcd hmg hobj hints hlen hg => ?_
  obtain ⟨K, fd, sp, KX, hb, hsp, hF⟩ := F w mg fa _ Y G.T.g hmg
  exact law_callG KX G.T.g G.T.b G.T.builtins G.T.nolimit hg hobj hints (Nat.le_trans hlen hn2) hr hF hb (fun H hO hS => hsp H a ns hlen hO hS) fun H e s' => hCX w H s₁ e s'
end L3

/-! L3I: x[i] = e, x op= e; a def's promise over data, calls of it. -/
namespace L3
open PySem L2

/-! ### x[i] = e -/
def dSto (j : Nat) (te ti : DE) : DS := fun ex env D => te ex env fun v n1 => (∃ xs, n1[j]? = some (some (.own xs))) ∧ ti ex n1 fun w n2 => ∃ xs k i d n3, dat n2 w = some (.int i) ∧ share v n2 = some (d, n3) ∧ n3[j]? = some (some (.own xs)) ∧ ixN xs.length i = some k ∧ D.nx (n3.set j (some (.own (xs.set k d))))
section
variable {X : Cx} {C : Ct} {W : WX} {j : Nat} {x : Str} {p pos ppos : Pos} {e ie : Expr} {te ti : DE}
theorem ds_sub (he : DP X C W e te) (hi : DP X C W ie ti) (hN : X.N[j]? = some x := by rfl) (hv : Vis X.env.scope x := by first | exact Or.inl rfl | exact Or.inr (Or.inl rfl) | exact Or.inr (Or.inr rfl)) (hd : (x == ("__debug__" : Str)) = false := by decide)
    (hcd : (x == ("__classdict__" : Str)) = false := by decide) (ha : ∀ v, assign (.Subscript (.Name x p) ie ppos) X.env v = (do
      let ov ← holding [v] (eval (.Name x p) X.env)
      let iv ← holding [v, ov] (eval ie X.env)
      standAt ppos
      holding [v, ov, iv] (setItem ov iv v)
      release [v, ov, iv] []) := by intro _; rfl) (hs : swapsWithSole [.Subscript (.Name x p) ie ppos] e pos.line X.env = pure false := by rfl) (hw : swappedStores [.Subscript (.Name x p) ie ppos] e X.env = pure none := by rfl)
    (h1 : (assignEach [.Subscript (.Name x p) ie ppos] X.env).map (·.2) = [assign (.Subscript (.Name x p) ie ppos) X.env] := by rfl) : DPS X C W (.Assign [.Subscript (.Name x p) ie ppos] e pos) (dSto j te ti) := by
  refine ⟨(ps_asg he.run (pg_sub (pe_var hN hv hd hcd) hi.run set_list ha) hs hw h1).imp fun D σ H ⟨HP, env, as, R, h⟩ => ⟨HP, env, as, R, he.mono _ _ env _ _ (fun e n z => z.at σ) (fun v n q => ?_) h⟩, fun ex ex' env D D' hx hd h => he.mono ex ex' env _ _ hx (fun v n ⟨h1, h2⟩ => ⟨h1, hi.mono ex ex' n _ _ hx (fun w n2 ⟨xs, k, i, d, n3, g1, g2, g3, g4, g5⟩ => ⟨xs, k, i, d, n3, g1, g2, g3, g4, hd.nx _ g5⟩) h2⟩) h⟩
  intro y HP1 H1 as1 t1 R1 x1 V1
  obtain ⟨⟨xs0, e0⟩, q⟩ := q
  obtain ⟨a0, vs0, f1, _⟩ := R1.mut e0
  refine ⟨.ref a0, f1, HP1, n, as1, R1.nots, hi.mono _ _ n _ _ (fun e n z => (z.from x1.cut).at σ) (fun w n2 h2 => ?_) q⟩
  intro z HP2 H2 as2 t2 R2 x2 V2
  obtain ⟨R3, st, x3⟩ := R1.pend x2 R2
  obtain ⟨xs, k, i, d, n3, e1, e2, e3, e4, p⟩ := h2
  have w1 := R2.rp V2 e1
  cases w1
  obtain ⟨HP3, as3, R4, g1, x4⟩ := R3.share (V1.frame x2.ex st) e2
  obtain ⟨a, ws, f3, f4, f5, _, f6⟩ := R4.nots.mut e3
  rw [f1] at f3; cases f3
  obtain ⟨R5, x5⟩ := f6 (ws.set k y) (xs.set k d) (f5.set g1 k)
  refine ⟨a0, ws, i, k, rfl, rfl, f4, by rw [f5.length]; exact e4, p σ HP3 _ as3 R5 (((x1.trans x3).trans x4).cut.trans x5)⟩

/-! ### x op= e of ints -/
def dAug (i : Nat) (P : Int → Int → Prop) (f : Int → Int → Int) (te : DE) : DS := fun ex env D => ∃ a, env[i]? = some (some (.sh (.int a))) ∧ te ex env fun v n => ∃ b, dat n v = some (.int b) ∧ P a b ∧ i < n.length ∧ D.nx (n.set i (some (.sh (.int (f a b)))))
theorem ds_aug {i : Nat} {op : Operator} {P R : Int → Int → Prop} {f : Int → Int → Int} (ho : OpR X (inplaceOp op) (rI R fun i j => .int (f i j))) (hPR : ∀ a b, P a b → R a b) (hN : X.N.Nodup) (he : DP X C W e te) (hi : X.N[i]? = some x := by rfl) (hx : Loc X.env.scope x := by first | exact Or.inl rfl | exact Or.inr rfl)
    (hf : X.fn x = true ∨ X.env.scope.names.lookup x = some .local := by first | exact .inl rfl | exact .inr rfl | assumption) (hio : i ∉ C.io := by exact of_decide_eq_true rfl) : DPS X C W (.AugAssign (.Name x p) op e pos) (dAug i P f te) := by
  refine ⟨(ps_aug hN hi hx he.run (ti := rI R fun i j => .int (f i j)) ho hf).imp fun D σ H ⟨HP, env, as, R', a, e1, h⟩ => ?_, fun ex ex' env D D' hx hd ⟨a, h1, h⟩ => ⟨a, h1, he.mono ex ex' env _ _ hx (fun v n ⟨b, g1, g2, g3, g4⟩ => ⟨b, g1, g2, g3, hd.nx _ g4⟩) h⟩⟩
  obtain ⟨v0, a0, f1, f2, _⟩ := R'.slot e1
  obtain ⟨f2, _⟩ := f2
  cases f2
  refine ⟨_, f1, HP, env, as, R', he.mono _ _ env _ _ (fun e n z => z.at σ) (fun v n q => ?_) h⟩
  intro y HP1 H1 as1 t1 R1 x1 V1
  obtain ⟨b, g1, g2, g3, g4⟩ := q
  have w1 := R1.rp V1 g1
  cases w1
  have R2 : Rel X.K C HP1 σ H1 n as1 ([] ++ []) := R1.nots
  obtain ⟨as2, R3, hm⟩ := R2.store (s := .sh (.int (f a b))) (v := .int (f a b)) ⟨.int _, rfl⟩ g3 (.inl hio)
  exact ⟨a, b, rfl, rfl, hPR a b g2, g4 _ HP1 H1 as2 R3 (x1.less fun c hc => List.mem_append_left _ (by simpa using hm c hc))⟩
theorem iop_mulW : OpR X (inplaceOp .Mult) (rI CMulW fun i j => .int (i * j)) := opI fun _ _ _ _ _ _ _ hc q => PyProof.Rows.imul_int q hc.ok
theorem iop_addT : OpR X (inplaceOp .Add) (rI (fun _ _ => True) fun i j => .int (i + j)) := opI fun _ _ _ _ _ _ _ _ q => PyProof.Rows.iadd_int q
theorem iop_subT : OpR X (inplaceOp .Sub) (rI (fun _ _ => True) fun i j => .int (i - j)) := opI fun _ _ _ _ _ _ _ _ q => PyProof.Rows.isub_int q
end

/-! ### a def's promise over data -/
/-- from the parameters' slots: what is wanted of the answer and of the lent lists behind, of an exception -/
abbrev DSp := List Sl → (Sl → List (Option Sl) → Prop) → (Ex3 → List (Option Sl) → Prop) → Prop
def hid (H : Hp) (as : List Addr) : Hp := fun a => if a ∈ as then none else H a
theorem hid_same (H : Hp) (as : List Addr) : Same (hid H as) H := fun a o e => by
  unfold hid at e
  split at e
  · cases e
  · exact e
theorem hid_of {H : Hp} {as : List Addr} {a : Addr} {o : HO} (h : H a = some o) (n : a ∉ as) : hid H as a = some o := by unfold hid; rw [if_neg n]; exact h
theorem hid_none {H : Hp} {as : List Addr} {a : Addr} (h : a ∈ as) : hid H as a = none := by unfold hid; rw [if_pos h]
def ctOf (cls : Str → Value) (io : List Nat) (H : Hp) (as : List Addr) (vs : List V) : Ct := ⟨hid H as, cls, io, fun k => vs.getD k .non⟩
def outOk : Option Sl → Bool
  | some (.bor _) => false
  | some (.scr _) => false
  | _ => true
/-- an answer may be handed out -/
def outSl : Sl → Option Sl
  | .bor d => if scal d = true then some (.sh d) else none
  | .scr _ => none
  | s => some s
/-- what is left behind a call: the lent lists (their values iv), the answer -/
def Left (K : PySem.W.Frag) (HP H : Hp) (as : List Addr) (iv : List V) (outs : List (Option Sl)) (HP' H' : Hp) (as' ts' : List Addr) : Prop :=
  Rel K ⟨fun _ => none, fun _ => .none, [], fun _ => .non⟩ HP' (iv.map some) H' outs as' ts' ∧ outs.all outOk = true ∧ Stp HP H as HP' H' (as' ++ ts')
def liftSp (K : PySem.W.Frag) (cls : Str → Value) (io : List Nat) (sp : DSp) : Sp := fun vs H Q E => ∃ HP as ss,
  Rel K (ctOf cls io H as vs) HP (vs.map some) H (ss.map some) as [] ∧
  sp ss (fun r outs => ∀ v HP' H' as' ts', Left K HP H as (io.map fun k => vs.getD k .non) outs HP' H' as' ts' → RepS K ⟨fun _ => none, fun _ => .none, [], fun _ => .non⟩ HP' H' r v ts' → Q v H')
    (fun e outs => ∀ HP' H' as' d, Left K HP H as (io.map fun k => vs.getD k .non) outs HP' H' as' [] → ExR HP' H' e d → E (cls e.cls) d H')
/-- the lent lists at the def's end -/
def outsOf (io : List Nat) (n : En) : List (Option Sl) := io.map fun k => (n[k]?).join
def retK (io : List Nat) (Q : Sl → List (Option Sl) → Prop) : Sl → En → Prop := fun s n => ∃ s', outSl s = some s' ∧ (outsOf io n).all outOk = true ∧ Q s' (outsOf io n)
def excK (io : List Nat) (E : Ex3 → List (Option Sl) → Prop) : DX := fun e n => (outsOf io n).all outOk = true ∧ E e (outsOf io n)
section
variable {K : PySem.W.Frag} {C : Ct} {HP H : Hp} {σ : L2.St}
theorem RepE.nones : ∀ n : Nat, RepE K C HP H (List.replicate n none) (List.replicate n none) []
  | 0 => rfl
  | n + 1 => ⟨[], [], rfl, rfl, RepE.nones n⟩
theorem RepE.append : ∀ {env env2 : En} {σ σ2 : L2.St} {as as2 : List Addr}, RepE K C HP H env σ as → RepE K C HP H env2 σ2 as2 → RepE K C HP H (env ++ env2) (σ ++ σ2) (as ++ as2)
  | [], _, [], _, as, _, h, h2 => by cases h; exact h2
  | [], _, _ :: _, _, _, _, h, _ => h.elim
  | _ :: _, _, [], _, _, _, h, _ => h.elim
  | s :: env, _, v :: σ, _, as, _, h, h2 => by
    obtain ⟨a1, a2, rfl, h3, h4⟩ := h
    exact ⟨a1, a2 ++ _, by rw [List.append_assoc], h3, RepE.append h4 h2⟩
theorem outSl_rep {C' : Ct} {s s' : Sl} {v : V} {ts : List Addr} (e : outSl s = some s') (q : RepS K C HP H s v ts) : RepS K C' HP H s' v ts := by
  cases s with
  | sh d => cases e; exact q
  | bor d =>
    have e2 : (if L3.scal d = true then some (Sl.sh d) else none) = some s' := e
    by_cases hs : L3.scal d = true
    · rw [if_pos hs] at e2
      cases e2
      exact ⟨Rp.scal q.1 hs, q.2⟩
    · rw [if_neg hs] at e2
      cases e2
  | own xs => cases e; exact q
  | odk xs => cases e; exact q
  | scr ns => cases e
/-- slots picked out -/
theorem Rel.pick : ∀ {io : List Nat} {env : En} {as ts : List Addr}, Rel K C HP σ H env as ts → io.Nodup → (outsOf io env).all outOk = true → ∀ iv : List V, (∀ (m k : Nat), io[m]? = some k → ∃ v, iv[m]? = some v ∧ σ[k]? = some (some v)) → iv.length = io.length →
    ∃ as', RepE K ⟨fun _ => none, fun _ => .none, [], fun _ => .non⟩ HP H (outsOf io env) (iv.map some) as' ∧ (as' ++ ts).Nodup ∧ ∀ a ∈ as' ++ ts, a ∈ as ++ ts
  | [], env, as, ts, r, hn, hb, iv, hv, hl => by
    have e : iv = [] := List.eq_nil_of_length_eq_zero hl
    subst e
    refine ⟨[], rfl, by simpa using (List.nodup_append.mp r.nd).2.1, fun a ha => by simp at ha ⊢; exact .inr ha⟩
  | k :: io, env, as, ts, r, hn, hb, iv, hv, hl => by
    obtain ⟨v, h1, h2⟩ := hv 0 k rfl
    cases iv with
    | nil => cases h1
    | cons w iv =>
      cases Option.some.inj h1
      have hn' := List.nodup_cons.mp hn
      have hb' : outOk (env[k]?).join = true ∧ (outsOf io env).all outOk = true := by
        simpa [outsOf] using hb
      have hv' : ∀ (m k' : Nat), io[m]? = some k' → ∃ v, iv[m]? = some v ∧ σ[k']? = some (some v) := fun m k' hm => by
        obtain ⟨v, g1, g2⟩ := hv (m + 1) k' (by simpa using hm)
        exact ⟨v, by simpa using g1, g2⟩
      cases hk : (env[k]?).join with
      | none =>
        obtain ⟨as', h3, h4, h5⟩ := Rel.pick r hn'.2 hb'.2 iv hv' (by simpa using hl)
        refine ⟨[] ++ as', ?_, by simpa using h4, by simpa using h5⟩
        show RepE _ _ _ _ ((env[k]?).join :: outsOf io env) (some _ :: iv.map some) _
        rw [hk]
        exact ⟨[], as', rfl, rfl, h3⟩
      | some s =>
        have hk' : env[k]? = some (some s) := by
          cases z : env[k]? with
          | none => rw [z] at hk; cases hk
          | some o => rw [z] at hk; have : o = some s := hk; rw [this]
        obtain ⟨as1, t, r1, rs, hm⟩ := r.take hk' h2
        have eo : outsOf io (env.set k none) = outsOf io env := by
          unfold outsOf
          refine List.map_congr_left fun m hm => ?_
          rw [List.getElem?_set_ne (fun e => hn'.1 (by rw [e]; exact hm))]
        obtain ⟨as', h3, h4, h5⟩ := Rel.pick r1 hn'.2 (by rw [eo]; exact hb'.2) iv hv' (by simpa using hl)
        rw [eo] at h3
        refine ⟨t ++ as', ?_, ?_, fun a ha => (hm a).mp (h5 a ?_)⟩
        · show RepE _ _ _ _ ((env[k]?).join :: outsOf io env) (some _ :: iv.map some) _
          rw [hk]
          refine ⟨t, as', rfl, ?_, h3⟩
          cases s with
          | bor d => rw [hk] at hb'; exact (nomatch (show false = true from hb'.1))
          | scr d => rw [hk] at hb'; exact (nomatch (show false = true from hb'.1))
          | sh d => exact rs
          | own d => exact rs
          | odk d => exact rs
        · have pm : (as' ++ (t ++ ts)).Perm (t ++ as' ++ ts) := by
            rw [← List.append_assoc]
            exact List.Perm.append_right _ List.perm_append_comm
          exact pm.nodup_iff.mp h4
        · simp at ha ⊢
          rcases ha with z | z | z <;> simp [z]
theorem Rel.left {io : List Nat} {env : En} {as ts as0 : List Addr} {vs : List V} {cls : Str → Value} {H0 HP0 : Hp} (r : Rel K (ctOf cls io H0 as0 vs) HP σ H env as ts) (hn : io.Nodup) (hb : (outsOf io env).all outOk = true) (hio : ∀ k ∈ io, k < vs.length) (x : Stp HP0 H0 as0 HP H (as ++ ts)) :
    ∃ as', Left K HP0 H0 as0 (io.map fun k => vs.getD k .non) (outsOf io env) HP H as' ts := by
  obtain ⟨as', h1, h2, h3⟩ := r.pick hn hb (io.map fun k => vs.getD k .non) (fun m k hm => ⟨vs.getD k .non, by simp [hm], r.pin k (List.mem_of_getElem? hm)⟩) (by simp)
  refine ⟨as', ⟨r.exP, fun _ _ e => (nomatch e), ?_, h2, fun a ha => ?_, fun _ h => (nomatch h)⟩, hb, x.less h3⟩
  · exact h1
  · have q := r.own a (h3 a ha)
    exact ⟨q.1, rfl, q.2.2⟩
end

/-- THE RULE for a def: its body's derivation, and its reading over data -/
theorem fnD {P : Program} {w : World} {K : PySem.W.Frag} {mg : Str → Option Value} {base : Heap} {x qual : Str} {st : Stmt} {f : Addr} {fd : FuncData} {N ps : List Str} {k : Nat} {cls : Str → Value} {io : List Nat} {sp : DSp} {t : DS} (F : Fun K x qual st f fd) (S : FnScope N ps (defScope st))
    (len : ∀ ss Q E, sp ss Q E → ss.length = ps.length) (hio : io.Nodup) (hio2 : ∀ k ∈ io, k < ps.length)
    (hbody : ∀ (cdv : Value) (A : Around) (outer : List Env) (s : Shared) (H : Hp) (vs : List V) (E : XK) (as : List Addr), A.guards = some [] → Room k (A.deeper (PyProof.Rows.envOfC qual (defScope st) s.heap.objs.size f cdv)) →
      DPB (cxOf (L2.CX P w) P w K mg base N qual (defScope st) f cdv A outer s H E) (ctOf cls io H as vs) (fun (c : Value) (d : Option Addr) (_ : L2.St) (H1 : Hp) => E c d H1) (defBody st) t)
    (hsp : ∀ ss Q E, sp ss Q E → t (excK io E) (ss.map some ++ List.replicate (N.length - ps.length) none) ⟨fun n => retK io Q (.sh .none) n, retK io Q, fun _ => False, fun _ => False⟩) :
    FnG P w K mg base (L2.CX P w) (k + 1) f fd ps (liftSp K cls io sp) := by
  refine okG F S (fun vs H Q E h => ?_) (fun cdv A outer s H vs Q E gd hr h => ?_)
  · obtain ⟨HP, as, ss, R, h⟩ := h
    have := R.rep.len
    simp at this
    rw [this, len _ _ _ h]
  · obtain ⟨HP, as, ss, R, h⟩ := h
    have hl := R.rep.len
    simp at hl
    have hlen := len _ _ _ h
    have hd := hbody cdv A outer s H vs E as gd hr
    refine ⟨_, hd.run, ?_⟩
    have R' : Rel K (ctOf cls io H as vs) HP (L2.start N vs) H (ss.map some ++ List.replicate (N.length - ps.length) none) as [] := by
      refine ⟨R.exP, R.exB, ?_, R.nd, R.own, fun k hk => ?_⟩
      · unfold L2.start
        rw [hl, hlen]
        have := R.rep.append (RepE.nones (K := K) (C := ctOf cls io H as vs) (HP := HP) (H := H) (N.length - ps.length))
        rwa [List.append_nil] at this
      · have := R.pin k hk
        unfold L2.start
        rw [List.getElem?_append_left (by exact (List.getElem?_eq_some_iff.mp this).1)]
        exact this
    refine ⟨HP, _, as, R', hd.mono _ _ _ _ _ (fun e n z => ?_) ⟨fun n z => ?_, fun r n z => ?_, fun n z => False.elim z, fun n z => False.elim z⟩ (hsp _ _ _ h)⟩
    · intro σ' HP' H' as' d R1 x q
      obtain ⟨as2, L⟩ := Rel.left (ts := []) R1 hio z.1 (fun k hk => by rw [hl, hlen]; exact hio2 k hk) (by rw [List.append_nil]; exact x)
      exact z.2 HP' H' as2 d L q
    · intro σ' HP' H' as' R1 x
      obtain ⟨s', e1, z1, z2⟩ := z
      cases e1
      obtain ⟨as2, L⟩ := Rel.left (ts := []) R1 hio z1 (fun k hk => by rw [hl, hlen]; exact hio2 k hk) (by rw [List.append_nil]; exact x)
      exact z2 _ HP' H' as2 [] L ⟨.non, rfl⟩
    · intro v σ' HP' H' as' ts' R1 x q
      obtain ⟨s', e1, z1, z2⟩ := z
      obtain ⟨as2, L⟩ := Rel.left (ts := ts') R1 hio z1 (fun k hk => by rw [hl, hlen]; exact hio2 k hk) x
      exact z2 v HP' H' as2 ts' L (outSl_rep e1 q)
end L3

/-! L3J: calls of defs. -/
namespace L3
open PySem L2

/-- a parameter: only read; kept for good; lent and given back -/
inductive Md where
  | ro | sh | io
def lendAll : List Md → List Vl → En → Option (List (Option (Nat × Sl)) × En)
  | [], [], n => some ([], n)
  | .io :: ms, .loc i :: vs, n => match n[i]? with
    | some (some s) => if outOk (some s) = true then (lendAll ms vs (n.set i none)).map fun p => (some (i, s) :: p.1, p.2) else none
    | _ => none
  | .ro :: ms, _ :: vs, n => (lendAll ms vs n).map fun p => (none :: p.1, p.2)
  | .sh :: ms, _ :: vs, n => (lendAll ms vs n).map fun p => (none :: p.1, p.2)
  | _, _, _ => none
def roSl (v : Vl) (n : En) : Option Sl := match v with
  | .tmp (.scr ns) => some (.scr ns)
  | v => (dat n v).map fun d => if scal d = true then .sh d else .bor d
def conv : List Md → List Vl → List (Option (Nat × Sl)) → En → Option (List Sl × En)
  | [], [], [], n => some ([], n)
  | _ :: ms, _ :: vs, some (_, s) :: l, n => (conv ms vs l n).map fun p => (s :: p.1, p.2)
  | .ro :: ms, v :: vs, none :: l, n => match roSl v n with
    | some s => (conv ms vs l n).map fun p => (s :: p.1, p.2)
    | none => none
  | .sh :: ms, v :: vs, none :: l, n => match share v n with
    | some (d, n') => (conv ms vs l n').map fun p => (.sh d :: p.1, p.2)
    | none => none
  | _, _, _, _ => none
def putBack : List (Option (Nat × Sl)) → List (Option Sl) → En → En
  | [], _, n => n
  | none :: l, outs, n => putBack l outs n
  | some (i, _) :: l, o :: outs, n => putBack l outs (n.set i o)
  | some _ :: _, [], n => n
def ioOf : Nat → List Md → List Nat
  | _, [] => []
  | k, .io :: ms => k :: ioOf (k + 1) ms
  | k, _ :: ms => ioOf (k + 1) ms
/-- the call's start: what is lent, the callee's slots, our environment -/
def callD (ms : List Md) (vs : List Vl) (n : En) (k : List (Option (Nat × Sl)) → List Sl → En → Prop) : Prop := ∃ l n1 ss n2, lendAll ms vs n = some (l, n1) ∧ conv ms vs l n1 = some (ss, n2) ∧ k l ss n2
def dCall (ms : List Md) (dd : List PyData) (sp : DSp) (ta : DA) : DE := fun ex env Q => ta ex env fun vs n => callD ms vs n fun l ss n2 => sp (ss ++ dd.map Sl.sh) (fun r outs => Q (.tmp r) (putBack l outs n2)) fun e outs => ex e (putBack l outs n2)
def MonoSp (sp : DSp) : Prop := ∀ ss Q Q' E E', (∀ r o, Q r o → Q' r o) → (∀ e o, E e o → E' e o) → sp ss Q E → sp ss Q' E'
theorem mono_call {ms : List Md} {dd : List PyData} {sp : DSp} {ta : DA} (ma : MonoA ta) (hs : MonoSp sp) : MonoE (dCall ms dd sp ta) := fun ex ex' env Q Q' hx hq h =>
  ma ex ex' env _ _ hx (fun vs n ⟨l, n1, ss, n2, h1, h2, h3⟩ => ⟨l, n1, ss, n2, h1, h2, hs _ _ _ _ _ (fun r o z => hq _ _ z) (fun e o z => hx _ _ z) h3⟩) h

def LentR (K : PySem.W.Frag) (C : Ct) (HP H : Hp) (σ : L2.St) : List (Option (Nat × Sl)) → List V → List Addr → Prop
  | [], [], la => la = []
  | none :: l, _ :: vs, la => LentR K C HP H σ l vs la
  | some (i, s) :: l, v :: vs, la => outOk (some s) = true ∧ ∃ a1 a2, la = a1 ++ a2 ∧ RepS K C HP H s v a1 ∧ σ[i]? = some (some v) ∧ LentR K C HP H σ l vs a2
  | _, _, _ => False
def pickV : List (Option (Nat × Sl)) → List V → List V
  | none :: l, _ :: vs => pickV l vs
  | some _ :: l, v :: vs => v :: pickV l vs
  | _, _ => []
section
variable {K : PySem.W.Frag} {C : Ct} {σ : L2.St}
theorem Rel.perm {HP H : Hp} {env : En} {as ts ts' : List Addr} (r : Rel K C HP σ H env as ts) (h : ts.Perm ts') : Rel K C HP σ H env as ts' :=
  ⟨r.exP, r.exB, r.rep, (List.Perm.append_left as h).nodup_iff.mp r.nd, fun a ha => r.own a ((List.Perm.append_left as h).mem_iff.mpr ha), r.pin⟩
theorem outOk_rep {C' : Ct} {HP H : Hp} {s : Sl} {v : V} {ts : List Addr} (e : outOk (some s) = true) (q : RepS K C HP H s v ts) : RepS K C' HP H s v ts := by
  cases s with
  | sh d => exact q
  | bor d => cases e
  | own xs => exact q
  | odk xs => exact q
  | scr ns => cases e
/-- the lent slots are taken out -/
theorem Rel.lend {HP H : Hp} : ∀ {ms : List Md} {vals : List Vl} {vs : List V} {t : List Addr} {n n1 : En} {l : List (Option (Nat × Sl))} {as ts : List Addr}, lendAll ms vals n = some (l, n1) → RepVs K C HP H σ vals vs t → Rel K C HP σ H n as ts →
    ∃ as' la, Rel K C HP σ H n1 as' (ts ++ la) ∧ LentR K C HP H σ l vs la ∧ ∀ a, a ∈ as' ++ (ts ++ la) ↔ a ∈ as ++ ts
  | [], [], vs, t, n, n1, l, as, ts, e, q, r => by
    cases Option.some.inj e
    obtain ⟨rfl, rfl⟩ := q
    exact ⟨as, [], by rw [List.append_nil]; exact r, rfl, fun a => by simp⟩
  | .io :: ms, .loc i :: vals, vs, t, n, n1, l, as, ts, e, q, r => by
    obtain ⟨v, w, t1, t2, rfl, rfl, q1, q2⟩ := q
    unfold lendAll at e
    cases hi : n[i]? with
    | none => rw [hi] at e; cases e
    | some o => cases o with
      | none => rw [hi] at e; cases e
      | some s =>
        rw [hi] at e
        dsimp only at e
        by_cases hs : outOk (some s) = true
        · rw [if_pos hs] at e
          cases e2 : lendAll ms vals (n.set i none) with
          | none => rw [e2] at e; cases e
          | some p =>
            rw [e2] at e
            cases Option.some.inj e
            obtain ⟨as1, a1, r1, rs, hm⟩ := r.take hi q1.1
            obtain ⟨as', la, r2, h2, h3⟩ := Rel.lend e2 q2 r1
            have pm : (a1 ++ ts ++ la).Perm (ts ++ (a1 ++ la)) := by
              rw [← List.append_assoc]
              exact List.Perm.append_right _ List.perm_append_comm
            refine ⟨as', a1 ++ la, r2.perm pm, ⟨hs, a1, la, rfl, rs, q1.1, h2⟩, fun a => ?_⟩
            rw [← hm a, ← h3 a]
            have p2 : (as' ++ (ts ++ (a1 ++ la))).Perm (as' ++ (a1 ++ ts ++ la)) := List.Perm.append_left _ pm.symm
            exact p2.mem_iff
        · rw [if_neg hs] at e; cases e
  | .ro :: ms, v :: vals, vs, t, n, n1, l, as, ts, e, q, r => by
    obtain ⟨v, w, t1, t2, rfl, rfl, q1, q2⟩ := q
    unfold lendAll at e
    cases e2 : lendAll ms vals n with
    | none => rw [e2] at e; cases e
    | some p =>
      rw [e2] at e
      cases Option.some.inj e
      obtain ⟨as', la, g1, g2, g3⟩ := Rel.lend e2 q2 r
      exact ⟨as', la, g1, g2, g3⟩
  | .sh :: ms, v :: vals, vs, t, n, n1, l, as, ts, e, q, r => by
    obtain ⟨v, w, t1, t2, rfl, rfl, q1, q2⟩ := q
    unfold lendAll at e
    cases e2 : lendAll ms vals n with
    | none => rw [e2] at e; cases e
    | some p =>
      rw [e2] at e
      cases Option.some.inj e
      obtain ⟨as', la, g1, g2, g3⟩ := Rel.lend e2 q2 r
      exact ⟨as', la, g1, g2, g3⟩
  | .io :: ms, .tmp s :: vals, vs, t, n, n1, l, as, ts, e, q, r => by cases e
  | [], _ :: _, vs, t, n, n1, l, as, ts, e, q, r => by cases e
  | .io :: _, [], vs, t, n, n1, l, as, ts, e, q, r => by cases e
  | .ro :: _, [], vs, t, n, n1, l, as, ts, e, q, r => by cases e
  | .sh :: _, [], vs, t, n, n1, l, as, ts, e, q, r => by cases e
/-- seen without the lent lists -/
theorem Rel.hide {HP H : Hp} {n : En} {as ts la : List Addr} (r : Rel K C HP σ H n as (ts ++ la)) : Rel K C HP σ (hid H la) n as ts ∧ (∀ a ∈ as ++ ts, hid H la a = H a) := by
  have nd : (as ++ ts ++ la).Nodup := by rw [List.append_assoc]; exact r.nd
  have n2 := List.nodup_append.mp nd
  have out : ∀ a ∈ as ++ ts, a ∉ la := fun a ha z => n2.2.2 a ha a z rfl
  have same : ∀ a ∈ as ++ ts, hid H la a = H a := fun a ha => by unfold hid; rw [if_neg (out a ha)]
  have own : ∀ a ∈ la, HP a = none ∧ C.HB a = none ∧ H a ≠ none := fun a ha => r.own a (by simp [ha])
  refine ⟨⟨fun a o e => hid_of (r.exP a o e) fun z => ?_, fun a o e => hid_of (r.exB a o e) fun z => ?_, r.rep.frame (Same.refl _) fun a ha => same a (List.mem_append_left _ ha), n2.1, fun a ha => ?_, r.pin⟩, same⟩
  · rw [(own a z).1] at e; cases e
  · rw [(own a z).2.1] at e; cases e
  · have q := r.own a (by rw [← List.append_assoc]; exact List.mem_append_left _ ha)
    exact ⟨q.1, q.2.1, by rw [same a ha]; exact q.2.2⟩
def ParR (K : PySem.W.Frag) (Hh HP : Hp) : List (Option (Nat × Sl)) → List Sl → List V → Prop
  | [], [], [] => True
  | none :: l, s :: ss, v :: vs => (∀ (cls : Str → Value) (io : List Nat) (iv : Nat → V) (H : Hp), RepS K ⟨Hh, cls, io, iv⟩ HP H s v []) ∧ ParR K Hh HP l ss vs
  | some (_, s') :: l, s :: ss, _ :: vs => s = s' ∧ ParR K Hh HP l ss vs
  | _, _, _ => False
theorem ParR.mono {Hh HP HP' : Hp} (e : Same HP HP') : ∀ {l : List (Option (Nat × Sl))} {ss : List Sl} {vs : List V}, ParR K Hh HP l ss vs → ParR K Hh HP' l ss vs
  | [], [], [], _ => trivial
  | none :: l, s :: ss, v :: vs, h => ⟨fun cls io iv H => (h.1 cls io iv H).frame e fun _ z => (by cases z), ParR.mono e h.2⟩
  | some _ :: l, s :: ss, _ :: vs, h => ⟨h.1, ParR.mono e h.2⟩
  | [], [], _ :: _, h => h.elim
  | [], _ :: _, _, h => h.elim
  | none :: _, [], _, h => h.elim
  | none :: _, _ :: _, [], h => h.elim
  | some _ :: _, [], _, h => h.elim
  | some _ :: _, _ :: _, [], h => h.elim
theorem roSl_rep {Hh HP : Hp} {n : En} {as t : List Addr} {val : Vl} {v : V} {s : Sl} (r : Rel K C HP σ Hh n as t) {u : List Addr} (q : RepV K C HP Hh σ val v u) (e : roSl val n = some s) : ∀ (cls : Str → Value) (io : List Nat) (iv : Nat → V) (H : Hp), RepS K ⟨Hh, cls, io, iv⟩ HP H s v [] := by
  have main : ∀ {d : PyData}, dat n val = some d → (if scal d = true then Sl.sh d else Sl.bor d) = s → ∀ (cls : Str → Value) (io : List Nat) (iv : Nat → V) (H : Hp), RepS K ⟨Hh, cls, io, iv⟩ HP H s v [] := fun {d} hd he cls io iv H => by
    have w := r.rp q hd
    by_cases hs : scal d = true
    · rw [if_pos hs] at he; subst he; exact ⟨w.scal hs, rfl⟩
    · rw [if_neg hs] at he; subst he; exact ⟨w, rfl⟩
  have gen : (dat n val).map (fun d => if scal d = true then Sl.sh d else Sl.bor d) = some s → ∀ (cls : Str → Value) (io : List Nat) (iv : Nat → V) (H : Hp), RepS K ⟨Hh, cls, io, iv⟩ HP H s v [] := fun e => by
    cases hd : dat n val with
    | none => rw [hd] at e; cases e
    | some d => rw [hd] at e; exact main hd (Option.some.inj e)
  cases val with
  | loc i => exact gen e
  | tmp s' => cases s' with
    | scr ns =>
      cases e
      intro cls io iv H
      obtain ⟨a, rfl, h2, h3⟩ := q
      exact ⟨a, rfl, rfl, SqL.ext h3 r.exB⟩
    | sh d => exact gen e
    | bor d => exact gen e
    | own d => exact gen e
    | odk d => exact gen e
theorem Rel.conv {Hh : Hp} : ∀ {ms : List Md} {vals : List Vl} {vs : List V} {HP : Hp} {t : List Addr} {n n2 : En} {l : List (Option (Nat × Sl))} {ss : List Sl} {as : List Addr}, L3.conv ms vals l n = some (ss, n2) → RepVs K C HP Hh σ vals vs t → Rel K C HP σ Hh n as t →
    ∃ HP' as', Rel K C HP' σ Hh n2 as' [] ∧ ParR K Hh HP' l ss vs ∧ Same HP HP' ∧ (∀ a ∈ as', a ∈ as ++ t) ∧ (∀ a o, HP' a = some o → HP a = some o ∨ a ∈ as ++ t)
  | [], [], vs, HP, t, n, n2, l, ss, as, e, q, r => by
    cases l with
    | cons _ _ => cases e
    | nil =>
      cases Option.some.inj e
      obtain ⟨rfl, rfl⟩ := q
      exact ⟨HP, as, r, trivial, Same.refl _, fun a ha => by simpa using ha, fun _ _ h => .inl h⟩
  | m :: ms, val :: vals, vs, HP, t, n, n2, l, ss, as, e, q, r => by
    obtain ⟨v, w, t1, t2, rfl, rfl, q1, q2⟩ := q
    have wide : ∀ a, a ∈ as ++ t2 → a ∈ as ++ (t1 ++ t2) := fun a h => (List.mem_append.mp h).elim (fun z => List.mem_append_left _ z) fun z => List.mem_append_right _ (List.mem_append_right _ z)
    cases l with
    | nil => cases m <;> cases e
    | cons o l =>
      cases o with
      | some p =>
        obtain ⟨i, s⟩ := p
        have e' : (L3.conv ms vals l n).map (fun p => (s :: p.1, p.2)) = some (ss, n2) := by cases m <;> exact e
        cases e2 : L3.conv ms vals l n with
        | none => rw [e2] at e'; cases e'
        | some p =>
          rw [e2] at e'
          cases Option.some.inj e'
          obtain ⟨HP', as', r1, h1, h2, h3, h4⟩ := Rel.conv e2 q2 (r.drop (List.sublist_append_right _ _))
          exact ⟨HP', as', r1, ⟨rfl, h1⟩, h2, fun a ha => wide a (h3 a ha), fun a o z => (h4 a o z).imp_right (wide a)⟩
      | none =>
        cases m with
        | io => cases e
        | ro =>
          unfold L3.conv at e
          cases e1 : roSl val n with
          | none => rw [e1] at e; cases e
          | some s =>
            rw [e1] at e
            dsimp only at e
            cases e2 : L3.conv ms vals l n with
            | none => rw [e2] at e; cases e
            | some p =>
              rw [e2] at e
              cases Option.some.inj e
              obtain ⟨HP', as', r1, h1, h2, h3, h4⟩ := Rel.conv e2 q2 (r.drop (List.sublist_append_right _ _))
              exact ⟨HP', as', r1, ⟨fun cls io iv H => (roSl_rep r q1 e1 cls io iv H).frame h2 fun _ z => (by cases z), h1⟩, h2, fun a ha => wide a (h3 a ha), fun a o z => (h4 a o z).imp_right (wide a)⟩
        | sh =>
          unfold L3.conv at e
          cases e1 : L3.share val n with
          | none => rw [e1] at e; cases e
          | some p0 =>
            obtain ⟨d, n'⟩ := p0
            rw [e1] at e
            dsimp only at e
            cases e2 : L3.conv ms vals l n' with
            | none => rw [e2] at e; cases e
            | some p =>
              rw [e2] at e
              cases Option.some.inj e
              obtain ⟨HP1, as1, r1, g1, x1⟩ := r.share q1 e1
              have q2' : RepVs K C HP1 Hh σ vals w t2 := q2.frame x1.ex fun _ _ => rfl
              obtain ⟨HP', as', r2, h1, h2, h3, h4⟩ := Rel.conv e2 q2' r1
              have x1s : ∀ a ∈ as1 ++ t2, a ∈ as ++ (t1 ++ t2) := fun a ha => (x1.sub a ha).elim id fun z => absurd z (r1.own a ha).2.2
              refine ⟨HP', as', r2, ⟨fun cls io iv H => ⟨g1.mono h2, rfl⟩, h1⟩, x1.ex.trans h2, fun a ha => x1s a (h3 a ha), fun a o z => ?_⟩
              rcases h4 a o z with z | z
              · rcases x1.hp a o z with y | y | y
                · exact .inl y
                · have := r1.exP a o z
                  rw [y] at this; cases this
                · exact .inr y
              · exact .inr (x1s a z)
  | [], _ :: _, vs, HP, t, n, n2, l, ss, as, e, q, r => by cases e
  | m :: _, [], vs, HP, t, n, n2, l, ss, as, e, q, r => by cases m <;> cases e

/-- behind the call: the rest stands -/
theorem Rel.behind {HP H HP2 H2 : Hp} {n : En} {as la bs : List Addr} (r : Rel K C HP σ H n as la) (x : Stp HP H la HP2 H2 bs) (eP : Same HP2 H2) (nd : bs.Nodup) (own : ∀ a ∈ bs, HP2 a = none ∧ H2 a ≠ none) : Rel K C HP2 σ H2 n as bs := by
  have n2 := List.nodup_append.mp r.nd
  have out : ∀ a ∈ as, a ∉ la := fun a ha z => n2.2.2 a ha a z rfl
  have stay : ∀ a ∈ as, H2 a = H a := fun a h => by
    obtain ⟨o, e⟩ := ne_none (r.own a (List.mem_append_left _ h)).2.2
    rw [x.fr a o e (out a h), e]
  have hB : ∀ a, (H a = none ∨ a ∈ la) → C.HB a = none := fun a h => h.elim (fun z => r.exB.free z) fun z => (r.own a (List.mem_append_right _ z)).2.1
  refine ⟨eP, fun a o e => x.fr a o (r.exB a o e) fun z => ?_, r.rep.frame x.ex stay, List.nodup_append.mpr ⟨n2.1, nd, fun a ha b hb e => ?_⟩, fun a ha => ?_, r.pin⟩
  · rw [(r.own a (List.mem_append_right _ z)).2.1] at e; cases e
  · subst e
    rcases x.sub a hb with z | z
    · exact out a ha z
    · exact (r.own a (List.mem_append_left _ ha)).2.2 z
  · rcases List.mem_append.mp ha with h | h
    · have q := r.own a (List.mem_append_left _ h)
      refine ⟨?_, q.2.1, by rw [stay a h]; exact q.2.2⟩
      cases e : HP2 a with
      | none => rfl
      | some o =>
        rcases x.hp a o e with z | z | z
        · rw [q.1] at z; cases z
        · exact absurd z q.2.2
        · exact absurd z (out a h)
    · have q := own a h
      exact ⟨q.1, hB a ((x.sub a h).symm), q.2⟩
theorem Rel.clr {HP H : Hp} {n : En} {as ts : List Addr} {i : Nat} (r : Rel K C HP σ H n as ts) : ∃ as', Rel K C HP σ H (n.set i none) as' ts ∧ ∀ a ∈ as', a ∈ as := by
  by_cases hi : i < n.length
  · obtain ⟨w, pre, a, post, h1, h2, h3, h4⟩ := r.rep.at i (List.getElem?_eq_getElem hi)
    have k := h4 HP H none w [] (Same.refl _) (fun _ _ => rfl) rfl
    rw [set_same h1] at k
    subst h2
    have sub : (pre ++ ([] ++ post) ++ ts).Sublist (pre ++ (a ++ post) ++ ts) := List.Sublist.append (List.Sublist.append (List.Sublist.refl _) (List.Sublist.append (List.nil_sublist _) (List.Sublist.refl _))) (List.Sublist.refl _)
    refine ⟨pre ++ ([] ++ post), ⟨r.exP, r.exB, k, r.nd.sublist sub, fun b hb => r.own b (sub.mem hb), r.pin⟩, fun b hb => ?_⟩
    rcases List.mem_append.mp hb with z | z
    · exact List.mem_append_left _ z
    · exact List.mem_append_right _ (List.mem_append_right _ (by simpa using z))
  · rw [List.set_eq_of_length_le (by omega)]
    exact ⟨as, r, fun _ h => h⟩
/-- given back -/
theorem Rel.back {HP0 H0 HP H : Hp} : ∀ {l : List (Option (Nat × Sl))} {vs : List V} {la : List Addr} {outs : List (Option Sl)} {n : En} {as a2 ts : List Addr}, LentR K C HP0 H0 σ l vs la → RepE K ⟨fun _ => none, fun _ => .none, [], fun _ => .non⟩ HP H outs ((pickV l vs).map some) a2 → outs.all outOk = true →
    (∀ p ∈ l, ∀ q, p = some q → q.1 < n.length) → Rel K C HP σ H n as (a2 ++ ts) → ∃ as', Rel K C HP σ H (putBack l outs n) as' ts ∧ ∀ a ∈ as', a ∈ as ++ a2
  | [], _, _, outs, n, as, a2, ts, _, _, _, _, r => ⟨as, r.drop (List.sublist_append_right _ _), fun a h => List.mem_append_left _ h⟩
  | none :: l, _ :: vs, la, outs, n, as, a2, ts, hl, ho, hk, hn, r => by
    obtain ⟨as', g1, g2⟩ := Rel.back (l := l) hl ho hk (fun p hp => hn p (List.mem_cons_of_mem _ hp)) r
    exact ⟨as', g1, g2⟩
  | some (i, s) :: l, v :: vs, la, outs, n, as, a2, ts, hl, ho, hk, hn, r => by
    obtain ⟨_, b1, b2, rfl, _, hv, hl⟩ := hl
    cases outs with
    | nil => exact ho.elim
    | cons o outs =>
      obtain ⟨c1, c2, rfl, h1, h2⟩ := ho
      have hi : i < n.length := hn _ (List.mem_cons_self ..) _ rfl
      have fin : ∀ {as1 : List Addr}, Rel K C HP σ H (n.set i o) as1 (c2 ++ ts) → (∀ a ∈ as1, a ∈ as ++ c1) → ∃ as', Rel K C HP σ H (putBack l outs (n.set i o)) as' ts ∧ ∀ a ∈ as', a ∈ as ++ (c1 ++ c2) := fun {as1} r1 m1 => by
        obtain ⟨as', g1, g2⟩ := Rel.back (l := l) hl h2 (by simp at hk ⊢; exact hk.2) (fun p hp q e => by rw [List.length_set]; exact hn p (List.mem_cons_of_mem _ hp) q e) r1
        refine ⟨as', g1, fun a ha => ?_⟩
        rw [← List.append_assoc]
        exact (List.mem_append.mp (g2 a ha)).elim (fun z => List.mem_append_left _ (m1 a z)) fun z => List.mem_append_right _ z
      cases o with
      | none =>
        cases h1
        obtain ⟨as1, r1, m1⟩ := Rel.clr (i := i) r
        exact fin r1 fun a ha => List.mem_append_left _ (m1 a ha)
      | some s' =>
        rw [List.append_assoc] at r
        have q : RepS K C HP H s' v c1 := by
          cases s' with
          | sh d => exact h1
          | bor d => exact (nomatch (show false = true from (by simp [outOk] at hk)))
          | own xs => exact h1
          | odk xs => exact h1
          | scr ns => exact (nomatch (show false = true from (by simp [outOk] at hk)))
        obtain ⟨as1, r1, m1⟩ := r.store q hi (.inr hv)
        rw [set_same hv] at r1
        exact fin r1 m1
  | none :: _, [], _, _, _, _, _, _, hl, _, _, _, _ => hl.elim
  | some _ :: _, [], _, _, _, _, _, _, hl, _, _, _, _ => hl.elim

theorem lent_lt {HP H : Hp} : ∀ {l : List (Option (Nat × Sl))} {vs : List V} {la : List Addr}, LentR K C HP H σ l vs la → ∀ p ∈ l, ∀ q, p = some q → q.1 < σ.length
  | [], _, _, _, p, hp, _, _ => by cases hp
  | none :: l, _ :: vs, la, h, p, hp, q, e => by
    rcases List.mem_cons.mp hp with rfl | hp
    · cases e
    · exact lent_lt (l := l) h p hp q e
  | some (i, s) :: l, v :: vs, la, ⟨_, a1, a2, _, _, hv, h⟩, p, hp, q, e => by
    rcases List.mem_cons.mp hp with rfl | hp
    · cases e; exact (List.getElem?_eq_some_iff.mp hv).1
    · exact lent_lt (l := l) h p hp q e
  | none :: _, [], _, h, _, _, _, _ => h.elim
  | some _ :: _, [], _, h, _, _, _, _ => h.elim
theorem lend_len {HP H : Hp} : ∀ {ms : List Md} {vals : List Vl} {vs : List V} {t : List Addr} {n n1 : En} {l : List (Option (Nat × Sl))}, lendAll ms vals n = some (l, n1) → RepVs K C HP H σ vals vs t → ∀ (pre dvs : List V),
    (∀ k ∈ ioOf pre.length ms, k < (pre ++ (vs ++ dvs)).length) ∧ (ioOf pre.length ms).map (fun k => (pre ++ (vs ++ dvs)).getD k .non) = pickV l vs ∧ (ioOf pre.length ms).Nodup ∧ ∀ k ∈ ioOf pre.length ms, pre.length ≤ k
  | [], [], vs, t, n, n1, l, e, q, pre, dvs => by
    cases Option.some.inj e
    obtain ⟨rfl, rfl⟩ := q
    exact ⟨fun k h => (by cases h), rfl, .nil, fun k h => (by cases h)⟩
  | m :: ms, val :: vals, vs, t, n, n1, l, e, q, pre, dvs => by
    obtain ⟨v, w, t1, t2, rfl, rfl, q1, q2⟩ := q
    have sw : ∀ (ws : List V), pre ++ ((v :: w) ++ ws) = (pre ++ [v]) ++ (w ++ ws) := fun ws => by simp
    have ln : (pre ++ [v]).length = pre.length + 1 := by simp
    have plain : ∀ {p : List (Option (Nat × Sl)) × En}, lendAll ms vals n = some p → l = none :: p.1 → ioOf pre.length (m :: ms) = ioOf (pre.length + 1) ms →
        (∀ k ∈ ioOf pre.length (m :: ms), k < (pre ++ ((v :: w) ++ dvs)).length) ∧ (ioOf pre.length (m :: ms)).map (fun k => (pre ++ ((v :: w) ++ dvs)).getD k .non) = pickV l (v :: w) ∧ (ioOf pre.length (m :: ms)).Nodup ∧ ∀ k ∈ ioOf pre.length (m :: ms), pre.length ≤ k := fun {p} e2 e3 e4 => by
      obtain ⟨g1, g2, g3, g4⟩ := lend_len e2 q2 (pre ++ [v]) dvs
      rw [ln] at g1 g2 g3 g4
      rw [e4, sw dvs, e3]
      exact ⟨g1, g2, g3, fun k hk => Nat.le_of_succ_le (g4 k hk)⟩
    cases m with
    | ro =>
      unfold lendAll at e
      cases e2 : lendAll ms vals n with
      | none => rw [e2] at e; cases e
      | some p => rw [e2] at e; cases Option.some.inj e; exact plain e2 rfl rfl
    | sh =>
      unfold lendAll at e
      cases e2 : lendAll ms vals n with
      | none => rw [e2] at e; cases e
      | some p => rw [e2] at e; cases Option.some.inj e; exact plain e2 rfl rfl
    | io =>
      cases val with
      | tmp s => cases e
      | loc i =>
        unfold lendAll at e
        cases hi : n[i]? with
        | none => rw [hi] at e; cases e
        | some o => cases o with
          | none => rw [hi] at e; cases e
          | some s =>
            rw [hi] at e
            dsimp only at e
            by_cases hs : outOk (some s) = true
            · rw [if_pos hs] at e
              cases e2 : lendAll ms vals (n.set i none) with
              | none => rw [e2] at e; cases e
              | some p =>
                rw [e2] at e
                cases Option.some.inj e
                obtain ⟨g1, g2, g3, g4⟩ := lend_len e2 q2 (pre ++ [v]) dvs
                rw [ln] at g1 g2 g3 g4
                rw [sw dvs]
                refine ⟨fun k hk => ?_, ?_, List.nodup_cons.mpr ⟨fun z => Nat.lt_irrefl _ (g4 _ z), g3⟩, fun k hk => ?_⟩
                · rcases List.mem_cons.mp hk with rfl | hk
                  · simp
                  · exact g1 k hk
                · show _ :: _ = _ :: _
                  rw [g2]
                  congr 1
                  simp [List.getD_eq_getElem?_getD]
                · rcases List.mem_cons.mp hk with rfl | hk
                  · exact Nat.le_refl _
                  · exact Nat.le_of_succ_le (g4 k hk)
            · rw [if_neg hs] at e; cases e
  | [], _ :: _, vs, t, n, n1, l, e, q, pre, dvs => by cases e
  | m :: _, [], vs, t, n, n1, l, e, q, pre, dvs => by cases m <;> cases e
theorem par_rep {Hh HP HP' H : Hp} {cls : Str → Value} {io : List Nat} {iv : Nat → V} (ex : Same HP HP') : ∀ {l : List (Option (Nat × Sl))} {vs : List V} {ss : List Sl} {la : List Addr}, LentR K C HP H σ l vs la → ParR K Hh HP' l ss vs → RepE K ⟨Hh, cls, io, iv⟩ HP' H (ss.map some) (vs.map some) la
  | [], [], [], la, h, _ => h
  | none :: l, v :: vs, s :: ss, la, h, p => ⟨[], la, rfl, p.1 cls io iv H, par_rep ex (l := l) h p.2⟩
  | some (i, s') :: l, v :: vs, s :: ss, la, ⟨hk, a1, a2, e, hs, _, h⟩, p => by
    obtain ⟨rfl, p2⟩ := p
    exact ⟨a1, a2, e, (outOk_rep hk hs).frame ex fun _ _ => rfl, par_rep ex (l := l) h p2⟩
  | [], [], _ :: _, _, _, p => p.elim
  | [], _ :: _, [], _, _, p => p.elim
  | [], _ :: _, _ :: _, _, _, p => p.elim
  | none :: _, [], _, _, h, _ => h.elim
  | some _ :: _, [], _, _, h, _ => h.elim
  | none :: _, _ :: _, [], _, _, p => p.elim
  | some _ :: _, _ :: _, [], _, _, p => p.elim
theorem rep_dd {C : Ct} {HP H : Hp} : ∀ {dvs : List V} {dd : List PyData}, RpAll HP dvs dd → RepE K C HP H ((dd.map Sl.sh).map some) (dvs.map some) []
  | _, _, .nil => rfl
  | _, _, .cons q r => ⟨[], [], rfl, ⟨q, rfl⟩, rep_dd r⟩
theorem retRep {C : Ct} {HP H : Hp} {s : Sl} {v : V} {ts : List Addr} (q : RepS K ⟨fun _ => none, fun _ => .none, [], fun _ => .non⟩ HP H s v ts) : RepS K C HP H s v ts := by
  cases s with
  | sh d => exact q
  | bor d => exact ⟨q.1.mono fun _ _ e => (by cases e), q.2⟩
  | own xs => exact q
  | odk xs => exact q
  | scr ns =>
    obtain ⟨a, h1, h2, h3⟩ := q
    exact ⟨a, h1, h2, SqL.ext h3 fun _ _ e => (by cases e)⟩
/-- the call's core -/
theorem call_core {W : WX} {HP H : Hp} {n n1 n2 : En} {as t : List Addr} {ms : List Md} {vals : List Vl} {vs dvs : List V} {dd : List PyData} {l : List (Option (Nat × Sl))} {ss : List Sl} {io : List Nat} {spd : DSp} {Q : VK} {Qd : Sl → List (Option Sl) → Prop} {Ed : Ex3 → List (Option Sl) → Prop}
    (R : Rel K C HP σ H n as t) (Vr : RepVs K C HP H σ vals vs t) (e1 : lendAll ms vals n = some (l, n1)) (e2 : L3.conv ms vals l n1 = some (ss, n2)) (hio : io = ioOf 0 ms) (hdd : ∀ H, RpAll H dvs dd) (msp : MonoSp spd) (hsp : spd (ss ++ dd.map Sl.sh) Qd Ed)
    (hQ : ∀ r outs, Qd r outs → Po K C σ HP H (as ++ t) Q (.tmp r) (putBack l outs n2)) (hE : ∀ e outs, Ed e outs → lX K C W σ HP H (as ++ t) e (putBack l outs n2)) : liftSp K C.cls io spd (vs ++ dvs) H Q (WE W σ) := by
  obtain ⟨as', la, R1, hl, hm⟩ := R.lend e1 Vr
  obtain ⟨Rh, same⟩ := R1.hide
  obtain ⟨HP', as2, R2, hp, ex, sub, hp2⟩ := Rel.conv e2 (Vr.frame (Same.refl _) fun a ha => same a (List.mem_append_right _ ha)) Rh
  have nd1 : (as' ++ t ++ la).Nodup := by rw [List.append_assoc]; exact R1.nd
  have nd := List.nodup_append.mp nd1
  have laO : ∀ a ∈ la, C.HB a = none ∧ H a ≠ none := fun a ha => (R1.own a (by simp [ha])).2
  have R3 : Rel K C HP' σ H n2 as2 la := by
    have r2nd : as2.Nodup := by have := R2.nd; rwa [List.append_nil] at this
    refine ⟨R2.exP.trans (hid_same H la), R.exB, R2.rep.frame (Same.refl _) fun a ha => (same a (sub a ha)).symm, List.nodup_append.mpr ⟨r2nd, nd.2.1, fun a ha b hb => nd.2.2 a (sub a ha) b hb⟩, fun a ha => ?_, R2.pin⟩
    rcases List.mem_append.mp ha with h | h
    · have q := R2.own a (List.mem_append_left _ h)
      exact ⟨q.1, q.2.1, by rw [← same a (sub a h)]; exact q.2.2⟩
    · refine ⟨?_, laO a h⟩
      cases z : HP' a with
      | none => rfl
      | some o =>
        have := R2.exP a o z
        rw [hid_none h] at this; cases this
  have x3 : Stp HP H (as ++ t) HP' H (as2 ++ la) := by
    refine ⟨ex, fun _ _ e _ => e, fun a ha => .inl ((hm a).mp ?_), fun a o e => ?_, fun _ h => h⟩
    · rcases List.mem_append.mp ha with h | h
      · have := sub a h
        rw [← List.append_assoc]; exact List.mem_append_left _ this
      · simp [h]
    · rcases hp2 a o e with z | z
      · exact .inl z
      · exact .inr (.inr ((hm a).mp (by rw [← List.append_assoc]; exact List.mem_append_left _ z)))
  obtain ⟨k1, k2, _, _⟩ := lend_len e1 Vr [] dvs
  have k1' : ∀ k ∈ io, k < (vs ++ dvs).length := fun k hk => by rw [hio] at hk; exact k1 k hk
  have k2' : (io.map fun k => (vs ++ dvs).getD k .non) = pickV l vs := by rw [hio]; exact k2
  have lt : ∀ p ∈ l, ∀ q, p = some q → q.1 < n2.length := fun p hp q e => by
    have := lent_lt hl p hp q e
    rwa [R3.rep.len] at this
  refine ⟨HP', la, ss ++ dd.map Sl.sh, ⟨R3.exP, hid_same H la, ?_, by rw [List.append_nil]; exact nd.2.1, fun a ha => ?_, fun k hk => ?_⟩, msp _ _ _ _ _ (fun r outs z => ?_) (fun e outs z => ?_) hsp⟩
  · rw [List.map_append, List.map_append]
    have := (par_rep (cls := C.cls) (io := io) (iv := fun k => (vs ++ dvs).getD k .non) ex hl hp).append (rep_dd (K := K) (C := ctOf C.cls io H la (vs ++ dvs)) (H := H) (hdd HP'))
    rwa [List.append_nil] at this
  · rw [List.append_nil] at ha
    exact ⟨(R3.own a (List.mem_append_right _ ha)).1, hid_none ha, (laO a ha).2⟩
  · show _ = some (some ((vs ++ dvs).getD k .non))
    have := k1' k hk
    rw [List.getElem?_map, List.getElem?_eq_getElem this, List.getD_eq_getElem?_getD, List.getElem?_eq_getElem this]
    rfl
  · intro v HP2 H2 as3 ts3 L rs
    obtain ⟨Rl, hk, x4⟩ := L
    have R4 := R3.behind x4 Rl.exP Rl.nd fun a ha => ⟨(Rl.own a ha).1, (Rl.own a ha).2.2⟩
    have rep := Rl.rep
    rw [k2'] at rep
    obtain ⟨as4, R5, m5⟩ := Rel.back hl rep hk lt R4
    refine hQ r outs z v HP2 H2 as4 ts3 R5 (x3.trans ⟨x4.ex, fun a o e n => x4.fr a o e fun z => n (List.mem_append_right _ z), fun a ha => ?_, fun a o e => (x4.hp a o e).elim .inl fun z => z.elim (fun z => .inr (.inl z)) fun z => .inr (.inr (List.mem_append_right _ z)), x4.un⟩) ?_
    · rcases List.mem_append.mp ha with h | h
      · rcases List.mem_append.mp (m5 a h) with h | h
        · exact .inl (List.mem_append_left _ h)
        · exact (x4.sub a (List.mem_append_left _ h)).elim (fun z => .inl (List.mem_append_right _ z)) .inr
      · exact (x4.sub a (List.mem_append_right _ h)).elim (fun z => .inl (List.mem_append_right _ z)) .inr
    · exact retRep rs
  · intro HP2 H2 as3 d L xr
    obtain ⟨Rl, hk, x4⟩ := L
    have R4 := R3.behind x4 Rl.exP Rl.nd fun a ha => ⟨(Rl.own a ha).1, (Rl.own a ha).2.2⟩
    have rep := Rl.rep
    rw [k2'] at rep
    obtain ⟨as4, R5, m5⟩ := Rel.back hl rep hk lt R4
    refine hE e outs z HP2 H2 as4 d R5 (x3.trans ⟨x4.ex, fun a o e n => x4.fr a o e fun z => n (List.mem_append_right _ z), fun a ha => ?_, fun a o e => (x4.hp a o e).elim .inl fun z => z.elim (fun z => .inr (.inl z)) fun z => .inr (.inr (List.mem_append_right _ z)), x4.un⟩) xr
    rcases List.mem_append.mp (m5 a ha) with h | h
    · exact .inl (List.mem_append_left _ h)
    · exact (x4.sub a (List.mem_append_left _ h)).elim (fun z => .inl (List.mem_append_right _ z)) .inr
end
section
variable {X : Cx} {C : Ct} {W : WX} {k : Nat} {f : Addr} {fd : FuncData} {ps : List Str} {dvs : List V} {ds : List Value} {x : Str} {p pos : Pos} {e : Expr} {es : List Expr} {ta : DA} {spd : DSp} {io : List Nat} {ms : List Md} {dd : List PyData}
theorem do_call (F : FnG X.prog X.w X.K X.mg X.base (L2.CX X.prog X.w) k f fd ps (liftSp X.K C.cls io spd)) (hr : Room k X.A) (gd : X.A.guards = some []) (tk : Takes X W) (msp : MonoSp spd) (ha : DPA X C W (e :: es) ta) (hg : Gl X x) (hm : X.mg x = some (.ref f)) (hk : PySem.W.keepIn X.K (.ref f) = true) (hb : Binds X.K fd ps ds) (hd : Vals dvs ds) (hdd : ∀ H, RpAll H dvs dd) (hio : io = ioOf 0 ms := by rfl)
    (hdb : (x == ("__debug__" : Str)) = false := by decide) (he : starEach (e :: es) X.env = (false, eval e X.env) :: starEach es X.env := by rfl) (hpl : (backTo pos (starEach es X.env)).any (·.1) = false := by rfl) : DP X C W (.Call (.Name x p) (e :: es) [] pos) (dCall ms dd spd ta) := by
  refine ⟨(pe_callG (E := WE W) F hr gd hg hm hk hb hd (passAt tk) ha.run hdb he hpl).imp fun σ H Q ⟨HP, env, as, R, h⟩ => ⟨HP, env, as, R, ha.mono _ _ env _ _ (fun _ _ z => z) (fun vals n q => ?_) h⟩, mono_call ha.mono msp⟩
  intro vs HP1 H1 as1 t1 R1 x1 V1
  obtain ⟨l, n1, ss, n2, e1, e2, hsp⟩ := q
  exact call_core R1 V1 e1 e2 hio hdd msp hsp (fun r outs z v HP' H' as' ts' r1 y q => z v HP' H' as' ts' r1 (x1.trans y) q) fun e outs z HP' H' as' d r1 y q => z HP' H' as' d r1 (x1.trans y) q
end
end L3

/-! L3K: what is walked, in general; for, comprehensions. -/
namespace L3
open PySem L2

structure ItOk (K : PySem.W.Frag) (C : Ct) (J : It) (g : TG) (js : List Nat) (HP1 : Hp) (cnt : Nat) (st : Nat → En → En) : Prop where
  good : ∀ (i : Nat) (σ' : L2.St) (H' HP' : Hp) (env' : En) (as' : List Addr), Rel K C HP' σ' H' env' as' [] → Same HP1 HP' → (i < cnt → J.go i H') ∧ (cnt ≤ i → J.stop i H')
  turn : ∀ (i : Nat) (σ' : L2.St) (H' HP' : Hp) (env' : En) (as' : List Addr) (x : V) (H'' : Hp), Rel K C HP' σ' H' env' as' [] → Same HP1 HP' → i < cnt → (∀ j ∈ js, j < env'.length) → J.yld i H' x H'' → ∀ Q : L2.St → Hp → Prop,
    (∀ σ2 HP2 H2 as2, Rel K C HP2 σ2 H2 (st i env') as2 [] → Stp HP' H' as' HP2 H2 as2 → σ2.length = σ'.length → (∀ k : Nat, k ∉ js → σ2[k]? = σ'[k]?) → Q σ2 H2) → g x σ' H'' Q
abbrev DI := DX → En → (Nat → (Nat → En → En) → En → Prop) → Prop
def MonoI (t : DI) : Prop := ∀ (ex ex' : DX) (env : En) (Q Q' : Nat → (Nat → En → En) → En → Prop), (∀ e n, ex e n → ex' e n) → (∀ c s n, Q c s n → Q' c s n) → t ex env Q → t ex' env Q'
structure DPI (X : Cx) (C : Ct) (W : WX) (tg iter : Expr) (js : List Nat) (g : TG) (t : DI) : Prop where
  run : PI X tg iter fun σ H R => ∃ HP env as, Rel X.K C HP σ H env as [] ∧ t (lX X.K C W σ HP H as) env fun cnt st n1 => ∀ (J : It) (HP1 H1 : Hp) (as1 : List Addr), Rel X.K C HP1 σ H1 n1 as1 [] → Stp HP H as HP1 H1 as1 → ItOk X.K C J g js HP1 cnt st → R J H1
  mono : MonoI t
theorem _root_.L2.PI.imp {X : Cx} {tg e : Expr} {t t' : TI} (h : PI X tg e t) (k : ∀ σ H Q, t' σ H Q → t σ H Q) : PI X tg e t' := ⟨fun pins s σ H Q I q => h.run pins s σ H Q I (k σ H Q q)⟩

/-! ### the walks -/
section
variable {K : PySem.W.Frag} {C : Ct} {HP1 : Hp} {j j1 j2 : Nat}
theorem it_range {lo : Int} {cnt : Nat} (hio : j ∉ C.io) : ItOk K C (Itr lo cnt) (gName j) [j] HP1 cnt fun i n => n.set j (some (.sh (.int (lo + i)))) :=
  ⟨fun i σ' H' HP' env' as' R' s => ⟨fun h => h, fun h => h⟩, fun i σ' H' HP' env' as' v H'' R' s hi hl y Q k => by
    obtain ⟨rfl, rfl⟩ := y
    have R2 : Rel K C HP' σ' H'' env' as' ([] ++ []) := R'
    obtain ⟨as2, R3, hm⟩ := R2.store (s := .sh (.int (lo + i))) (v := .int (lo + i)) (t := []) ⟨.int _, rfl⟩ (hl j (by simp)) (.inl hio)
    exact k _ HP' H'' as2 R3 (Stp.refl.less fun a ha => by simpa using hm a ha) (by simp) fun k hk => List.getElem?_set_ne (fun e => hk (by simp [e]))⟩
def chs (x : Str) : List Str := x.cps.toList.map fun c => ⟨#[c]⟩
theorem it_str {x : Str} (hio : j ∉ C.io) : ItOk K C (Its x) (gName j) [j] HP1 (chs x).length fun i n => n.set j (some (.sh (.str ((chs x).getD i ⟨#[]⟩)))) := by
  have hl : (chs x).length = x.cps.size := by simp [chs]
  refine ⟨fun i σ' H' HP' env' as' R' s => ⟨fun h => by rw [hl] at h; exact h, fun h => by rw [hl] at h; exact h⟩, fun i σ' H' HP' env' as' v H'' R' s hi hl y Q k => ?_⟩
  obtain ⟨rfl, c, hc, rfl⟩ := y
  have e : (chs x).getD i ⟨#[]⟩ = ⟨#[c]⟩ := by
    have : x.cps.toList[i]? = some c := by simpa using hc
    simp [chs, List.getD_eq_getElem?_getD, this]
  have R2 : Rel K C HP' σ' H'' env' as' ([] ++ []) := R'
  obtain ⟨as2, R3, hm⟩ := R2.store (s := .sh (.str ⟨#[c]⟩)) (v := .str ⟨#[c]⟩) (t := []) ⟨.str _, rfl⟩ (hl j (by simp)) (.inl hio)
  refine k _ HP' H'' as2 ?_ (Stp.refl.less fun a ha => by simpa using hm a ha) (by simp) fun k hk => List.getElem?_set_ne (fun e => hk (by simp [e]))
  rw [e]; exact R3
/-- what a walk of a list gives -/
def Items (K : PySem.W.Frag) (C : Ct) (HP1 : Hp) (a : Addr) (xs : List PyData) (f : PyData → Sl) : Prop := ∀ HP' σ' H' n' as' ts', Rel K C HP' σ' H' n' as' ts' → Same HP1 HP' →
      ∃ vs, H' a = some (.lst vs) ∧ vs.length = xs.length ∧ ∀ (i : Nat) d, xs[i]? = some d → ∃ w, vs[i]? = some w ∧ RepS K C HP' H' (f d) w []
theorem it_list {a : Addr} {xs : List PyData} {f : PyData → Sl} (hio : j ∉ C.io) (items : Items K C HP1 a xs f) : ItOk K C (Itl K a) (gName j) [j] HP1 xs.length fun i n => n.set j (some (f (xs.getD i .none))) := by
  refine ⟨fun i σ' H' HP' env' as' R' s => ?_, fun i σ' H' HP' env' as' v H'' R' s hi hl y Q k => ?_⟩
  · obtain ⟨vs, g, len, get⟩ := items HP' σ' H' env' as' [] R' s
    refine ⟨fun hlt => ?_, fun hge => ⟨vs, SqL.of g, by omega⟩⟩
    obtain ⟨w', w1, _⟩ := get i _ (List.getElem?_eq_getElem hlt)
    exact ⟨vs, w', SqL.of g, w1⟩
  · obtain ⟨rfl, hy⟩ := y
    obtain ⟨vs, g, len, get⟩ := items HP' σ' H'' env' as' [] R' s
    have hd' := List.getElem?_eq_getElem hi
    obtain ⟨w', w1, w2⟩ := get i _ hd'
    have ev : v = w' := Option.some.inj ((hy vs (SqL.of g)).symm.trans w1)
    subst ev
    have R2 : Rel K C HP' σ' H'' env' as' ([] ++ []) := R'
    obtain ⟨as3, R3, hm⟩ := R2.store (v := v) w2 (hl j (by simp)) (.inl hio)
    have e : xs.getD i .none = xs[i] := by simp [List.getD_eq_getElem?_getD, hd']
    refine k _ HP' H'' as3 ?_ (Stp.refl.less fun a ha => by simpa using hm a ha) (by simp) fun k hk => List.getElem?_set_ne (fun e => hk (by simp [e]))
    rw [e]; exact R3
/-- a new pair is made, its parts are stored -/
theorem it_pair {σ' : L2.St} {H' HP' : Hp} {env' : En} {as' : List Addr} {T : Addr} {x y : V} {s1 s2 : Sl} (hio1 : j1 ∉ C.io) (hio2 : j2 ∉ C.io) (R' : Rel K C HP' σ' H' env' as' []) (hT : H' T = none) (g1 : RepS K C HP' H' s1 x []) (g2 : RepS K C HP' H' s2 y []) (hl : ∀ j ∈ [j1, j2], j < env'.length) (Q : L2.St → Hp → Prop)
    (k : ∀ σ2 HP2 H2 as2, Rel K C HP2 σ2 H2 ((env'.set j1 (some s1)).set j2 (some s2)) as2 [] → Stp HP' H' as' HP2 H2 as2 → σ2.length = σ'.length → (∀ k : Nat, k ∉ [j1, j2] → σ2[k]? = σ'[k]?) → Q σ2 H2) : gTup K 2 (gNames [j1, j2]) (.ref T) σ' (upd H' T (.tup [x, y])) Q := by
  have R2 := R'.new (o := .tup [x, y]) hT
  have w1 : RepS K C HP' (upd H' T (.tup [x, y])) s1 x [] := RepS.frame (Same.refl _) g1 fun _ h => nomatch h
  have w2 : RepS K C HP' (upd H' T (.tup [x, y])) s2 y [] := RepS.frame (Same.refl _) g2 fun _ h => nomatch h
  refine ⟨T, _, rfl, SqT.of upd_same, rfl, ?_⟩
  have R3 : Rel K C HP' σ' (upd H' T (.tup [x, y])) env' as' ([] ++ []) := R2
  obtain ⟨as4, R4, hm4⟩ := R3.store w1 (hl j1 (by simp)) (.inl hio1)
  have R5 : Rel K C HP' (σ'.set j1 (some x)) (upd H' T (.tup [x, y])) (env'.set j1 (some s1)) as4 ([] ++ []) := R4
  obtain ⟨as6, R6, hm6⟩ := R5.store w2 (by simpa using hl j2 (by simp)) (.inl hio2)
  refine ⟨_, _, rfl, _, _, rfl, rfl, k _ HP' _ as6 R6 ((Stp.new hT).less fun a ha => ?_) (by simp) fun k hk => ?_⟩
  · have z := hm6 a ha
    have z2 := hm4 a (by simpa using z)
    simpa using z2
  · simp at hk
    rw [List.getElem?_set_ne (fun e => hk.2 e.symm), List.getElem?_set_ne (fun e => hk.1 e.symm)]
theorem it_enum {a : Addr} {xs : List PyData} {f : PyData → Sl} (hio1 : j1 ∉ C.io) (hio2 : j2 ∉ C.io) (items : Items K C HP1 a xs f) : ItOk K C (Ite K a) (gTup K 2 (gNames [j1, j2])) [j1, j2] HP1 xs.length fun i n => (n.set j1 (some (.sh (.int i)))).set j2 (some (f (xs.getD i .none))) := by
  refine ⟨fun i σ' H' HP' env' as' R' s => ?_, fun i σ' H' HP' env' as' v H'' R' s hi hl y Q k => ?_⟩
  · obtain ⟨vs, g, len, get⟩ := items HP' σ' H' env' as' [] R' s
    refine ⟨fun hlt => ?_, fun hge => ⟨vs, SqL.of g, by omega⟩⟩
    obtain ⟨w', w1, _⟩ := get i _ (List.getElem?_eq_getElem hlt)
    exact ⟨vs, w', SqL.of g, w1⟩
  · obtain ⟨T, x, rfl, hT, rfl, hy⟩ := y
    obtain ⟨vs, g, len, get⟩ := items HP' σ' H' env' as' [] R' s
    have hd' := List.getElem?_eq_getElem hi
    obtain ⟨w', w1, w2⟩ := get i _ hd'
    have ev : x = w' := Option.some.inj ((hy vs (SqL.of g)).symm.trans w1)
    subst ev
    have e : xs.getD i .none = xs[i] := by simp [List.getD_eq_getElem?_getD, hd']
    rw [e] at k
    exact it_pair (s1 := .sh (.int (i : Nat))) hio1 hio2 R' hT ⟨.int _, rfl⟩ w2 hl Q k
theorem it_zip {a b : Addr} {xs ys : List PyData} {f f2 : PyData → Sl} (hio1 : j1 ∉ C.io) (hio2 : j2 ∉ C.io) (items : Items K C HP1 a xs f) (items2 : Items K C HP1 b ys f2) :
    ItOk K C (Itz K a b) (gTup K 2 (gNames [j1, j2])) [j1, j2] HP1 (min xs.length ys.length) fun i n => (n.set j1 (some (f (xs.getD i .none)))).set j2 (some (f2 (ys.getD i .none))) := by
  refine ⟨fun i σ' H' HP' env' as' R' s => ?_, fun i σ' H' HP' env' as' v H'' R' s hi hl y Q k => ?_⟩
  · obtain ⟨vs, g, len, get⟩ := items HP' σ' H' env' as' [] R' s
    obtain ⟨ws, g', len', get'⟩ := items2 HP' σ' H' env' as' [] R' s
    refine ⟨fun hlt => ?_, fun hge => ⟨vs, ws, SqL.of g, SqL.of g', by omega⟩⟩
    obtain ⟨w, w1, _⟩ := get i _ (List.getElem?_eq_getElem (by omega))
    obtain ⟨w', w1', _⟩ := get' i _ (List.getElem?_eq_getElem (by omega))
    exact ⟨vs, ws, w, w', SqL.of g, SqL.of g', w1, w1'⟩
  · obtain ⟨T, x, y', rfl, hT, rfl, hy, hy'⟩ := y
    obtain ⟨vs, g, len, get⟩ := items HP' σ' H' env' as' [] R' s
    obtain ⟨ws, g', len', get'⟩ := items2 HP' σ' H' env' as' [] R' s
    have hd : xs[i]? = some xs[i] := List.getElem?_eq_getElem (by omega)
    have hd' : ys[i]? = some ys[i] := List.getElem?_eq_getElem (by omega)
    obtain ⟨w, w1, w2⟩ := get i _ hd
    obtain ⟨w', w1', w2'⟩ := get' i _ hd'
    have ev : x = w := Option.some.inj ((hy vs (SqL.of g)).symm.trans w1)
    have ev' : y' = w' := Option.some.inj ((hy' ws (SqL.of g')).symm.trans w1')
    subst ev ev'
    have e : xs.getD i .none = xs[i] := by simp [List.getD_eq_getElem?_getD, hd]
    have e' : ys.getD i .none = ys[i] := by simp [List.getD_eq_getElem?_getD, hd']
    rw [e, e'] at k
    exact it_pair hio1 hio2 R' hT w2 w2' hl Q k
end

/-! ### the readings of what is walked -/
def iRng (rng : En → List Vl → Option (Int × Int)) (ta : DA) (j : Nat) : DI := fun ex env R => ta ex env fun vals n0 => ∃ lo hi : Int, rng n0 vals = some (lo, hi) ∧ RB lo ∧ RB hi ∧ R (hi - lo).toNat (fun i n => n.set j (some (.sh (.int (lo + i))))) n0
def iLst (te : DE) (j : Nat) : DI := fun ex env R => te ex env fun v n0 => ∃ xs f n1, walkL n0 v = some (xs, f, n1) ∧ R xs.length (fun i n => n.set j (some (f (xs.getD i .none)))) n1
def iSt (te : DE) (j : Nat) : DI := fun ex env R => te ex env fun v n0 => ∃ x, dat n0 v = some (.str x) ∧ R (chs x).length (fun i n => n.set j (some (.sh (.str ((chs x).getD i ⟨#[]⟩))))) n0
def iEnm (ta : DA) (j1 j2 : Nat) : DI := fun ex env R => ta ex env fun vals n0 => ∃ v xs f n1, vals = [v] ∧ walkL n0 v = some (xs, f, n1) ∧ R xs.length (fun i n => (n.set j1 (some (.sh (.int i)))).set j2 (some (f (xs.getD i .none)))) n1
def iZp (ta : DA) (j1 j2 : Nat) : DI := fun ex env R => ta ex env fun vals n0 => ∃ v w xs f n1 ys f2 n2, vals = [v, w] ∧ walkL n0 v = some (xs, f, n1) ∧ walkL n1 w = some (ys, f2, n2) ∧ R (min xs.length ys.length) (fun i n => (n.set j1 (some (f (xs.getD i .none)))).set j2 (some (f2 (ys.getD i .none)))) n2
section
variable {X : Cx} {C : Ct} {W : WX} {tg : Expr} {j j1 j2 : Nat} {pos p tpos : Pos} {ta : DA} {te : DE} {a b e e2 : Expr} {elts : List Expr} {kk : Nat}
theorem di_rng1 (hm : X.mg "range" = none) (ha : DPA X C W [a] ta) (hg : Gl X "range" := by rfl) (hs : starEach [a] X.env = [(false, eval a X.env)] := by rfl) (hio : j ∉ C.io := by exact of_decide_eq_true rfl) : DPI X C W tg (.Call (.Name "range" p) [a] [] pos) [j] (gName j) (iRng rng1 ta j) := by
  refine ⟨(pi_range1 hg hm ha.run hs).imp fun σ H R ⟨HP, env, as, Rl, h⟩ => ⟨HP, env, as, Rl, ha.mono _ _ env _ _ (fun _ _ z => z) (fun vals n q => ?_) h⟩, fun ex ex' env Q Q' hx hq h => ha.mono ex ex' env _ _ hx (fun vals n ⟨lo, hi, h1, h2, h3, h4⟩ => ⟨lo, hi, h1, h2, h3, hq _ _ _ h4⟩) h⟩
  intro vs HP1 H1 as1 ts R1 x1 V
  obtain ⟨lo, hi, e, h2, h3, q⟩ := q
  unfold rng1 at e
  split at e
  · split at e
    · rename_i i e1
      cases Option.some.inj e
      obtain ⟨y, rfl, V'⟩ := V.one
      have w := R1.rp V' e1
      cases w
      have z := q (Itr 0 (hi - 0).toNat) HP1 H1 as1 R1.nots x1.cut (it_range hio)
      exact ⟨hi, rfl, h3.1, h3.2, by simpa using z⟩
    · cases e
  · cases e
theorem di_rng2 (hm : X.mg "range" = none) (ha : DPA X C W [a, b] ta) (hg : Gl X "range" := by rfl) (hs : starEach [a, b] X.env = [(false, eval a X.env), (false, eval b X.env)] := by rfl) (hs2 : starEach [b] X.env = [(false, eval b X.env)] := by rfl) (hio : j ∉ C.io := by exact of_decide_eq_true rfl) : DPI X C W tg (.Call (.Name "range" p) [a, b] [] pos) [j] (gName j) (iRng rng2 ta j) := by
  refine ⟨(pi_range2 hg hm ha.run hs hs2).imp fun σ H R ⟨HP, env, as, Rl, h⟩ => ⟨HP, env, as, Rl, ha.mono _ _ env _ _ (fun _ _ z => z) (fun vals n q => ?_) h⟩, fun ex ex' env Q Q' hx hq h => ha.mono ex ex' env _ _ hx (fun vals n ⟨lo, hi, h1, h2, h3, h4⟩ => ⟨lo, hi, h1, h2, h3, hq _ _ _ h4⟩) h⟩
  intro vs HP1 H1 as1 ts R1 x1 V
  obtain ⟨lo, hi, e, h2, h3, q⟩ := q
  unfold rng2 at e
  split at e
  · split at e
    · rename_i i j' e1 e2
      cases Option.some.inj e
      obtain ⟨y1, y2, t1, t2, rfl, rfl, V1, V2⟩ := V.two
      have w1 := R1.rp V1 e1
      have w2 := R1.rp V2 e2
      cases w1; cases w2
      exact ⟨lo, hi, rfl, ⟨h2.1, h2.2, h3.1, h3.2⟩, q _ HP1 H1 as1 R1.nots x1.cut (it_range hio)⟩
    · cases e
  · cases e
theorem di_lst (he : DP X C W e te) (hio : j ∉ C.io := by exact of_decide_eq_true rfl) : DPI X C W tg e [j] (gName j) (iLst te j) := by
  refine ⟨(pi_list he.run).imp fun σ H R ⟨HP, env, as, Rl, h⟩ => ⟨HP, env, as, Rl, he.mono _ _ env _ _ (fun _ _ z => z) (fun v n q => ?_) h⟩, fun ex ex' env Q Q' hx hq h => he.mono ex ex' env _ _ hx (fun vals n ⟨lo, hi, h1, h2, h3⟩ => ⟨lo, hi, h1, h2, hq _ _ _ h3⟩) h⟩
  intro y HP1 H1 as1 ts R1 x1 V
  obtain ⟨xs, f, n1, e1, q⟩ := q
  obtain ⟨a, HP2, as2, rfl, R2, x2, items⟩ := R1.walk V e1
  obtain ⟨vs0, g0, _, _⟩ := items HP2 σ H1 n1 as2 [] R2 (Same.refl _)
  exact ⟨a, rfl, ⟨_, SqL.of g0⟩, q _ HP2 H1 as2 R2 (x1.trans x2) (it_list hio items)⟩
theorem di_str (he : DP X C W e te) (hio : j ∉ C.io := by exact of_decide_eq_true rfl) : DPI X C W tg e [j] (gName j) (iSt te j) := by
  refine ⟨(pi_str he.run).imp fun σ H R ⟨HP, env, as, Rl, h⟩ => ⟨HP, env, as, Rl, he.mono _ _ env _ _ (fun _ _ z => z) (fun v n q => ?_) h⟩, fun ex ex' env Q Q' hx hq h => he.mono ex ex' env _ _ hx (fun vals n ⟨x, h1, h2⟩ => ⟨x, h1, hq _ _ _ h2⟩) h⟩
  intro y HP1 H1 as1 ts R1 x1 V
  obtain ⟨x, e1, q⟩ := q
  have w := R1.rp V e1
  cases w
  exact ⟨x, rfl, q _ HP1 H1 as1 R1.nots x1.cut (it_str hio)⟩
theorem di_enum (hm : X.mg "enumerate" = none) (ha : DPA X C W [e] ta) (hgl : Gl X "enumerate" := by rfl) (hs : starEach [e] X.env = [(false, eval e X.env)] := by rfl) (hio1 : j1 ∉ C.io := by exact of_decide_eq_true rfl) (hio2 : j2 ∉ C.io := by exact of_decide_eq_true rfl) :
    DPI X C W (.Tuple elts kk tpos) (.Call (.Name "enumerate" p) [e] [] pos) [j1, j2] (gTup X.K 2 (gNames [j1, j2])) (iEnm ta j1 j2) := by
  refine ⟨(pi_enum hgl hm ha.run hs).imp fun σ H R ⟨HP, env, as, Rl, h⟩ => ⟨HP, env, as, Rl, ha.mono _ _ env _ _ (fun _ _ z => z) (fun v n q => ?_) h⟩, fun ex ex' env Q Q' hx hq h => ha.mono ex ex' env _ _ hx (fun vals n ⟨v, xs, f, n1, h0, h1, h2⟩ => ⟨v, xs, f, n1, h0, h1, hq _ _ _ h2⟩) h⟩
  intro ys HP1 H1 as1 ts R1 x1 V
  obtain ⟨v, xs, f, n1, rfl, e1, q⟩ := q
  obtain ⟨y, rfl, V'⟩ := V.one
  obtain ⟨a, HP2, as2, rfl, R2, x2, items⟩ := R1.walk V' e1
  obtain ⟨vs0, g0, _, _⟩ := items HP2 σ H1 n1 as2 [] R2 (Same.refl _)
  exact ⟨a, _, rfl, SqL.of g0, q _ HP2 H1 as2 R2 (x1.trans x2) (it_enum hio1 hio2 items)⟩
theorem di_zip (hm : X.mg "zip" = none) (ha : DPA X C W [e, e2] ta) (hgl : Gl X "zip" := by rfl) (hs : starEach [e, e2] X.env = (false, eval e X.env) :: starEach [e2] X.env := by rfl) (hpl : (backTo pos (starEach [e2] X.env)).any (·.1) = false := by rfl) (hio1 : j1 ∉ C.io := by exact of_decide_eq_true rfl) (hio2 : j2 ∉ C.io := by exact of_decide_eq_true rfl) :
    DPI X C W (.Tuple elts kk tpos) (.Call (.Name "zip" p) [e, e2] [] pos) [j1, j2] (gTup X.K 2 (gNames [j1, j2])) (iZp ta j1 j2) := by
  refine ⟨(pi_zip hgl hm ha.run hs hpl).imp fun σ H R ⟨HP, env, as, Rl, h⟩ => ⟨HP, env, as, Rl, ha.mono _ _ env _ _ (fun _ _ z => z) (fun v n q => ?_) h⟩, fun ex ex' env Q Q' hx hq h => ha.mono ex ex' env _ _ hx (fun vals n ⟨v, w, xs, f, n1, ys, f2, n2, h0, h1, h2, h3⟩ => ⟨v, w, xs, f, n1, ys, f2, n2, h0, h1, h2, hq _ _ _ h3⟩) h⟩
  intro ys HP1 H1 as1 ts R1 x1 V
  obtain ⟨v, w, xs, f, n1, ys, f2, n2, rfl, e1, e2, q⟩ := q
  obtain ⟨y1, y2, t1, t2, rfl, rfl, V1, V2⟩ := V.two
  obtain ⟨a, HP2, as2, rfl, R2, x2, items⟩ := R1.walkT V1 e1
  obtain ⟨b, HP3, as3, rfl, R3, x3, items2⟩ := R2.walk (RepV.frame x2.ex V2 fun _ _ => rfl) e2
  have items' : Items X.K C HP3 a xs f := fun HP' σ' H' n' as' ts' r s => items HP' σ' H' n' as' ts' r (x3.ex.trans s)
  obtain ⟨vs0, g0, _, _⟩ := items' HP3 σ H1 n2 as3 [] R3 (Same.refl _)
  obtain ⟨vs1, g1, _, _⟩ := items2 HP3 σ H1 n2 as3 [] R3 (Same.refl _)
  exact ⟨a, b, _, _, rfl, SqL.of g0, SqL.of g1, q _ HP3 H1 as3 R3 ((x1.trans x2).trans x3) (it_zip hio1 hio2 items' items2)⟩
end

/-! ### for -/
def dFor (js : List Nat) (ti : DI) (tb : DS) : DS := fun ex env D => ti ex env fun cnt st n1 => ∃ W : Nat → En → Prop, W 0 n1 ∧ (∀ i n, i < cnt → W i n → (∀ j ∈ js, j < n.length) ∧ tb ex (st i n) { D with nx := W (i + 1), ct := W (i + 1), bk := D.nx }) ∧ ∀ n, W cnt n → D.nx n
theorem ds_for {X : Cx} {C : Ct} {W : WX} {tg iter : Expr} {js : List Nat} {g : TG} {ti : DI} {body : List Stmt} {tb : DS} {fp : Pos} (hp : PassesOwn (model X.prog X.w) X.A X.env X.xe) (hc : X.calm = true) (hi : DPI X C W tg iter js g ti) (hg : PG X tg g) (hb : DPB X C W body tb)
    (hfs : ∀ y, foldedSetIterable iter X.env y = pure y := by intro _; rfl) : DPS X C W (.For tg iter body [] fp) (dFor js ti tb) := by
  refine ⟨(ps_for hp hc hi.run hg hb.run hfs).imp fun D σ H ⟨HP, env, as, R, h⟩ => ⟨HP, env, as, R, hi.mono _ _ env _ _ (fun e n z => z.at σ) (fun cnt st n1 q => ?_) h⟩, fun ex ex' env D D' hx hd h => hi.mono ex ex' env _ _ hx (fun cnt st n1 ⟨W, w0, hs, hd2⟩ => ⟨W, w0, fun i n hl w => ⟨(hs i n hl w).1, hb.mono ex ex' _ { D with nx := W (i + 1), ct := W (i + 1), bk := D.nx } _ hx ⟨fun _ z => z, hd.rt, hd.nx, fun _ z => z⟩ (hs i n hl w).2⟩, fun n w => hd.nx _ (hd2 n w)⟩) h⟩
  intro J HP1 H1 as1 R1 x1 ok
  obtain ⟨Wd, w0, hs, hd⟩ := q
  refine for_core (n := cnt) (st := st) hb.mono Wd R1 w0 (fun i σ' H' HP' env' as' R' s w => ok.good i σ' H' HP' env' as' R' s) (fun i σ' H' HP' env' as' v' H'' R' s hi' w y Q k => ?_) (fun i n hi' w => ?_) fun n w => nxL.from (hd n w) x1
  · exact ok.turn i σ' H' HP' env' as' v' H'' R' s hi' (hs i env' hi' w).1 y Q fun σ2 HP2 H2 as2 r x _ _ => k σ2 HP2 H2 as2 r x
  · exact hb.mono _ _ _ { endsOf X.K C HP H as D with nx := Wd (i + 1), ct := Wd (i + 1), bk := (endsOf X.K C HP H as D).nx } _ (fun e n z => z.from x1) ⟨fun _ z => z, fun _ _ z => rtL.from z x1, fun _ z => nxL.from z x1, fun _ z => z⟩ (hs i n hi' w).2
end L3

/-! L3L: comprehensions. -/
namespace L3
open PySem L2

def wipeE (n : En) : List Nat → En
  | [] => n
  | v :: vs => (wipeE n vs).set v none
theorem wipeE_len (n : En) : ∀ vs : List Nat, (wipeE n vs).length = n.length
  | [] => rfl
  | v :: vs => by unfold wipeE; rw [List.length_set, wipeE_len n vs]
theorem wipeE_no {n : En} {v : Nat} {s : Sl} : ∀ {vs : List Nat}, v ∈ vs → (wipeE n vs)[v]? ≠ some (some s)
  | w :: vs, h => by
    unfold wipeE
    by_cases e : w = v
    · subst e
      by_cases hl : w < (wipeE n vs).length
      · rw [List.getElem?_set_self hl]; exact fun z => (by cases z)
      · rw [List.getElem?_eq_none (by simpa using hl)]; exact fun z => (by cases z)
    · rw [List.getElem?_set_ne e]
      exact wipeE_no ((List.mem_cons.mp h).elim (fun z => absurd z.symm e) id)
theorem wipe_in {σ : L2.St} {v : Nat} (hl : v < σ.length) : ∀ {vs : List Nat}, v ∈ vs → (wipe σ vs)[v]? = some none
  | w :: vs, h => by
    unfold wipe
    by_cases e : w = v
    · subst e
      rw [List.getElem?_set_self (by rw [wipe_length]; exact hl)]
    · rw [List.getElem?_set_ne e]
      exact wipe_in hl ((List.mem_cons.mp h).elim (fun z => absurd z.symm e) id)
theorem wipe_eq {σ σ2 : L2.St} {vs : List Nat} (hl : σ2.length = σ.length) (h : ∀ k : Nat, k ∉ vs → σ2[k]? = σ[k]?) : wipe σ2 vs = wipe σ vs := by
  refine List.ext_getElem? fun k => ?_
  by_cases hk : k ∈ vs
  · by_cases hl2 : k < σ.length
    · rw [wipe_in hl2 hk, wipe_in (by rw [hl]; exact hl2) hk]
    · rw [List.getElem?_eq_none (by rw [wipe_length]; omega), List.getElem?_eq_none (by rw [wipe_length]; omega)]
  · rw [wipe_out hk, wipe_out hk]; exact h k hk
section
variable {K : PySem.W.Frag} {C : Ct} {HP H : Hp}
theorem RepE.cong : ∀ {env : En} {σ σ1 : L2.St} {as : List Addr}, RepE K C HP H env σ1 as → σ1.length = σ.length → (∀ (k : Nat) s, env[k]? = some (some s) → σ1[k]? = σ[k]?) → RepE K C HP H env σ as
  | [], σ, σ1, as, h, e, _ => by
    cases σ1 with
    | nil =>
      cases σ with
      | nil => exact h
      | cons _ _ => cases e
    | cons _ _ => exact h.elim
  | s :: env, σ, [], _, h, _, _ => h.elim
  | s :: env, [], _ :: _, _, _, e, _ => by cases e
  | s :: env, v :: σ, v1 :: σ1, as, ⟨a1, a2, e1, h1, h2⟩, e, k => by
    refine ⟨a1, a2, e1, ?_, RepE.cong h2 (by simpa using e) fun m s' hm => by have := k (m + 1) s' (by simpa using hm); simpa using this⟩
    cases s with
    | none => exact h1
    | some s =>
      have := k 0 s rfl
      have e2 : v1 = v := by simpa using this
      rw [← e2]; exact h1
theorem Rel.cong {σ σ1 : L2.St} {env : En} {as ts : List Addr} (r : Rel K C HP σ1 H env as ts) (hl : σ1.length = σ.length) (h : ∀ (k : Nat) s, env[k]? = some (some s) → σ1[k]? = σ[k]?) (hp : ∀ k ∈ C.io, σ1[k]? = σ[k]?) : Rel K C HP σ H env as ts :=
  ⟨r.exP, r.exB, r.rep.cong hl h, r.nd, r.own, fun k hk => by rw [← hp k hk]; exact r.pin k hk⟩
theorem Rel.wipeE {σ : L2.St} {n : En} : ∀ {vs : List Nat} {as ts : List Addr}, Rel K C HP σ H n as ts → ∃ as', Rel K C HP σ H (L3.wipeE n vs) as' ts ∧ ∀ a ∈ as', a ∈ as
  | [], as, ts, r => ⟨as, r, fun _ h => h⟩
  | v :: vs, as, ts, r => by
    obtain ⟨as1, r1, h1⟩ := Rel.wipeE (vs := vs) r
    obtain ⟨as2, r2, h2⟩ := Rel.clr (i := v) r1
    exact ⟨as2, r2, fun a h => h1 a (h2 a h)⟩
/-- the block's start: its own names forgotten -/
theorem Rel.blk {σ σ2 : L2.St} {n : En} {vs : List Nat} {as ts : List Addr} (r : Rel K C HP σ2 H n as ts) (hl : σ2.length = σ.length) (h : ∀ k : Nat, k ∉ vs → σ2[k]? = σ[k]?) (hio : ∀ v ∈ vs, v ∉ C.io) : ∃ as', Rel K C HP (wipe σ vs) H (L3.wipeE n vs) as' ts ∧ ∀ a ∈ as', a ∈ as := by
  obtain ⟨as', r1, m1⟩ := Rel.wipeE (vs := vs) r
  refine ⟨as', r1.cong (by rw [wipe_length]; exact hl) (fun k s e => ?_) fun k hk => ?_, m1⟩
  · have : k ∉ vs := fun z => wipeE_no z e
    rw [wipe_out this]; exact h k this
  · have : k ∉ vs := fun z => hio k z hk
    rw [wipe_out this]; exact h k this
theorem Rel.mutT {σ : L2.St} {n : En} {as : List Addr} {D : Addr} {o : HO} (r : Rel K C HP σ H n as [D]) : Rel K C HP σ (upd H D o) n as [D] ∧ Stp HP H (as ++ [D]) HP (upd H D o) (as ++ [D]) := by
  have q := r.own D (by simp)
  have ne : ∀ b ∈ as, b ≠ D := fun b hb z => (List.nodup_append.mp r.nd).2.2 b hb D (by simp) z
  refine ⟨⟨fun b u e => ?_, fun b u e => ?_, r.rep.frame (Same.refl _) fun b hb => upd_ne (ne b hb), r.nd, fun b hb => ?_, r.pin⟩, Same.refl _, fun b u e n => ?_, fun b h => .inl h, fun _ _ h => .inl h, fun b h => ?_⟩
  · rw [upd_ne (fun z => by subst z; rw [q.1] at e; cases e)]; exact r.exP b u e
  · rw [upd_ne (fun z => by subst z; rw [q.2.1] at e; cases e)]; exact r.exB b u e
  · have w := r.own b hb
    refine ⟨w.1, w.2.1, ?_⟩
    by_cases z : b = D
    · rw [z, upd_same]; exact fun q => nomatch q
    · rw [upd_ne z]; exact w.2.2
  · rw [upd_ne (fun z => n (by rw [z]; simp))]; exact e
  · by_cases z : b = D
    · rw [z, upd_same] at h; cases h
    · rw [upd_ne z] at h; exact h
end

def W0 : WX := fun _ _ _ _ => False
def exF : DX := fun _ _ => False
structure DPTs (X : Cx) (C : Ct) (ifs : List Expr) (t : DT) : Prop where
  run : PTs X ifs (liftT X.K C W0 t)
  mono : MonoT t
def dYes : DT := fun _ env Q => Q true env
theorem dts_nil {X : Cx} {C : Ct} : DPTs X C [] dYes := ⟨⟨fun _ _ σ H Q I h => wpAny_tests_nil (by
  obtain ⟨HP, env, as, R, h⟩ := h
  exact ⟨H, I, h HP H as R Stp.refl⟩)⟩, fun ex ex' env Q Q' hx hq h => hq _ _ h⟩
theorem dts_one {X : Cx} {C : Ct} {c : Expr} {t : DT} (h : DPT X C W0 c t) : DPTs X C [c] t := ⟨pts_one h.run, h.mono⟩
/-- the i-th turn, from the list so far -/
def dLc (vs js : List Nat) (ti : DI) (tt : DT) (te : DE) : DE := fun ex env Q => ti ex env fun cnt st n1 => (cnt ≤ sizeLine ∧ ∀ j ∈ js, j < n1.length) ∧ ∃ Wd : Nat → List PyData → En → Prop, Wd 0 [] (wipeE n1 vs) ∧
  (∀ (i : Nat) acc n, i < cnt → Wd i acc n → tt exF (st i n) fun b n2 => if b = true then te exF n2 fun v n3 => ∃ d n4, share v n3 = some (d, n4) ∧ Wd (i + 1) (acc ++ [d]) (wipeE n4 vs) else Wd (i + 1) acc (wipeE n2 vs)) ∧ ∀ acc n, Wd cnt acc n → Q (.tmp (.own acc)) n
section
variable {X : Cx} {C : Ct} {W : WX} {elt tg iter : Expr} {ifs : List Expr} {scope : Scope} {own : List (Str × Nat)} {pos : Pos} {js : List Nat} {g : TG} {ti : DI} {tt : DT} {te : DE}
theorem mono_lc {vs : List Nat} (mi : MonoI ti) : MonoE (dLc vs js ti tt te) := fun ex ex' env Q Q' hx hq h => mi ex ex' env _ _ hx (fun cnt st n1 ⟨h1, Wd, h2, h3, h4⟩ => ⟨h1, Wd, h2, h3, fun acc n w => hq _ _ (h4 acc n w)⟩) h
theorem lift_lc {K : PySem.W.Frag} {wi : TI} (vs : List Nat) (mi : MonoI ti) (mt : MonoT tt) (me : MonoE te) (hjs : ∀ j ∈ js, j ∈ vs) (hio : ∀ v ∈ vs, v ∉ C.io)
    (hwi : ∀ σ H R, (∃ HP env as, Rel K C HP σ H env as [] ∧ ti (lX K C W σ HP H as) env fun cnt st n1 => ∀ (J : It) (HP1 H1 : Hp) (as1 : List Addr), Rel K C HP1 σ H1 n1 as1 [] → Stp HP H as HP1 H1 as1 → ItOk K C J g js HP1 cnt st → R J H1) → wi σ H R)
    {σ : L2.St} {H : Hp} {Q : VK} (h : lift K C W (dLc vs js ti tt te) σ H Q) : tLc wi g (liftT K C W0 tt) (lift K C W0 te) vs σ H Q := by
  obtain ⟨HP, env, as, R, h⟩ := h
  refine hwi _ _ _ ⟨HP, env, as, R, mi _ _ env _ _ (fun _ _ z => z) (fun cnt st n1 q => ?_) h⟩
  intro J HP1 H1 as1 R1 x1 ok D hD
  obtain ⟨⟨hc, hl⟩, Wd, w0, turn, done⟩ := q
  obtain ⟨as1w, R1w, m1⟩ := R1.blk (σ := σ) (vs := vs) rfl (fun _ _ => rfl) hio
  have R1d := R1w.newT (o := .lst []) hD
  refine ⟨fun i m H => m = cnt - i ∧ i ≤ cnt ∧ ∃ HP' n' as' acc vacc, Rel K C HP' (wipe σ vs) H n' as' [D] ∧ H D = some (.lst vacc) ∧ RpAll HP' vacc acc ∧ acc.length ≤ i ∧ Stp HP1 H1 as1 HP' H (as' ++ [D]) ∧ (∀ v ∈ vs, ∀ s, n'[v]? ≠ some (some s)) ∧ Wd i acc n',
    ⟨cnt, by simp, Nat.zero_le _, HP1, _, as1w, [], [], R1d, upd_same, .nil, Nat.le_refl _, Stp.newT hD fun a ha => ?_, fun v hv s => wipeE_no hv, w0⟩, ?_⟩
  · rcases List.mem_append.mp ha with z | z
    · exact .inl (m1 a z)
    · exact .inr (by simpa using z)
  rintro i m H' ⟨rfl, hi, HP', n', as', acc, vacc, R', hD', ra, la, x', wn, wd⟩
  by_cases hlt : i < cnt
  · refine .inr ⟨(ok.good i _ _ _ _ _ R'.nots x'.ex).1 hlt, fun H'' => ∃ HP' n' as' acc vacc, Rel K C HP' (wipe σ vs) H'' n' as' [D] ∧ H'' D = some (.lst vacc) ∧ RpAll HP' vacc acc ∧ acc.length ≤ i + 1 ∧ Stp HP1 H1 as1 HP' H'' (as' ++ [D]) ∧ (∀ v ∈ vs, ∀ s, n'[v]? ≠ some (some s)) ∧ Wd (i + 1) acc n',
      fun H'' p => ⟨cnt - (i + 1), by omega, rfl, hlt, p⟩, fun x H'' y => ?_⟩
    have len' : n'.length = n1.length := by
      have e1 := R'.rep.len
      have e2 := R1.rep.len
      rw [wipe_length] at e1
      omega
    refine ok.turn i _ _ _ _ _ x H'' R'.nots x'.ex hlt (fun j hj => by rw [len']; exact hl j hj) y _ fun σ2 HP2 H2 as2 R2 x2 l2 k2 => ?_
    have out : ∀ k : Nat, k ∉ vs → σ2[k]? = σ[k]? := fun k hk => by rw [k2 k fun z => hk (hjs k z), wipe_out hk]
    have ls : σ2.length = σ.length := by rw [l2, wipe_length]
    obtain ⟨R2d, s2, x2d⟩ := R'.pend (σ' := wipe σ vs) (by rw [List.append_nil]; exact x2) R2
    refine ⟨wipe_eq ls out, HP2, st i n', as2, R2, mt _ _ _ _ _ (fun _ _ z => False.elim z) (fun b n2 q => ?_) (turn i acc n' hlt wd)⟩
    intro HP3 H3 as3 R3 x3
    obtain ⟨R3d, s3, x3d⟩ := R2d.pend (by rw [List.append_nil]; exact x3) R3
    have hD3 : H3 D = some (.lst vacc) := by rw [s3 D (by simp), s2 D (by simp)]; exact hD'
    have x13 := (x'.trans x2d).trans x3d
    cases b with
    | false =>
      refine iteF ?_
      obtain ⟨as4, R4, m4⟩ := R3d.blk (σ := σ) (vs := vs) ls out hio
      refine ⟨HP3, _, as4, acc, vacc, by simpa using R4, hD3, ra.mono (x2.ex.trans x3.ex), by omega, x13.less fun a ha => ?_, fun v hv s => wipeE_no hv, q⟩
      rcases List.mem_append.mp ha with z | z
      · exact List.mem_append_left _ (m4 a z)
      · exact List.mem_append_right _ (by simpa using z)
    | true =>
      refine iteT ⟨HP3, n2, as3, R3, me _ _ _ _ _ (fun _ _ z => False.elim z) (fun val n3 q => ?_) q⟩
      intro w HP4 H4 as4 ts4 R4 x4 V4
      obtain ⟨d, n4, e4, q⟩ := q
      obtain ⟨R4d, s4, x4d⟩ := R3d.pend x4 R4
      have hD4 : H4 D = some (.lst vacc) := by rw [s4 D (by simp)]; exact hD3
      have R4p : Rel K C HP4 σ2 H4 n3 as4 (ts4 ++ [D]) := R4d.perm (by simpa using (List.perm_append_comm (l₁ := [D]) (l₂ := ts4)))
      obtain ⟨HP5, as5, R5, g5, x5⟩ := R4p.share V4 e4
      obtain ⟨as6, R6, m6⟩ := R5.blk (σ := σ) (vs := vs) ls out hio
      obtain ⟨R7, x7⟩ := R6.mutT (o := .lst (vacc ++ [w]))
      have ra5 : RpAll HP5 vacc acc := ra.mono (((x2.ex.trans x3.ex).trans x4.ex).trans x5.ex)
      have x15 : Stp HP1 H1 as1 HP5 H4 (as6 ++ [D]) := ((x13.trans x4d).trans (x5.from fun a ha => by simp at ha ⊢; rcases ha with z | z | z <;> simp [z])).less fun a ha => by
        rcases List.mem_append.mp ha with z | z
        · exact List.mem_append_left _ (m6 a z)
        · exact List.mem_append_right _ z
      exact ⟨vacc, hD4, by rw [ra5.length]; omega, HP5, _, as6, acc ++ [d], vacc ++ [w], R7, upd_same, ra5.append (.cons g5 .nil), by simp; omega, x15.trans x7, fun v hv s => wipeE_no hv, q⟩
  · have e : i = cnt := by omega
    subst e
    refine .inl ⟨(ok.good i _ _ _ _ _ R'.nots x'.ex).2 (Nat.le_refl _), ?_⟩
    have Rf : Rel K C HP' σ H' n' as' [D] := R'.cong (wipe_length σ vs) (fun k s e => wipe_out fun z => wn k z s e) fun k hk => wipe_out fun z => hio k z hk
    exact done acc n' wd (.ref D) HP' H' as' [D] Rf (x1.trans x') ⟨D, vacc, rfl, rfl, hD', ra⟩
theorem do_lc (hc : X.calm = true) (hN : X.N.Nodup) (own : List (Str × Nat)) (hi : DPI X C W tg iter js g ti) (ok : BlkOk X.N X.env.scope scope own)
    (hg : ∀ (s : Shared) (H : Hp) (Cc : Addr) (cl : List (Str × Addr)) (fp : List Addr), PG (X.blk s H scope (compEnvC scope cl Cc X.env) fp) tg g) (ht : ∀ (s : Shared) (H : Hp) (Cc : Addr) (cl : List (Str × Addr)) (fp : List Addr), DPTs (X.blk s H scope (compEnvC scope cl Cc X.env) fp) C ifs tt)
    (he : ∀ (s : Shared) (H : Hp) (Cc : Addr) (cl : List (Str × Addr)) (fp : List Addr), DP (X.blk s H scope (compEnvC scope cl Cc X.env) fp) C W0 elt te) (hjs : ∀ j ∈ js, j ∈ own.map (·.2) := by exact of_decide_eq_true rfl) (hio : ∀ v ∈ own.map (·.2), v ∉ C.io := by exact of_decide_eq_true rfl) (hs : ∀ x, foldedSetIterable iter X.env x = pure x := by intro _; rfl) :
    DP X C W (.ListComp elt [⟨tg, iter, ifs, 0⟩] scope pos) (dLc (own.map (·.2)) js ti tt te) :=
  ⟨(pe_lc (tt := liftT X.K C W0 tt) (te := lift X.K C W0 te) hc hN hi.run ok hg (fun s H Cc cl fp => (ht s H Cc cl fp).run) (fun s H Cc cl fp => (he s H Cc cl fp).run) hs).imp fun σ H Q h => lift_lc _ hi.mono (ht X.s_0 X.H_0 0 [] []).mono (he X.s_0 X.H_0 0 [] []).mono hjs hio (fun _ _ _ z => z) h, mono_lc hi.mono⟩
/-- name = [..], on one line, the name no cell -/
theorem ds_setLc {i : Nat} {y : Str} {py spos : Pos} (hc : X.calm = true) (hN : X.N.Nodup) (own : List (Str × Nat)) (hi : DPI X C W tg iter js g ti) (ok : BlkOk X.N X.env.scope scope own)
    (hg : ∀ (s : Shared) (H : Hp) (Cc : Addr) (cl : List (Str × Addr)) (fp : List Addr), PG (X.blk s H scope (compEnvC scope cl Cc X.env) fp) tg g) (ht : ∀ (s : Shared) (H : Hp) (Cc : Addr) (cl : List (Str × Addr)) (fp : List Addr), DPTs (X.blk s H scope (compEnvC scope cl Cc X.env) fp) C ifs tt)
    (he : ∀ (s : Shared) (H : Hp) (Cc : Addr) (cl : List (Str × Addr)) (fp : List Addr), DP (X.blk s H scope (compEnvC scope cl Cc X.env) fp) C W0 elt te) (hsw : swapsWith (.ListComp elt [⟨tg, iter, ifs, 0⟩] scope pos) (some (.Name y py)) spos.line X.env = pure true)
    (hy : X.N[i]? = some y := by rfl) (hyl : X.env.scope.names.lookup y = some .local := by rfl) (hjs : ∀ j ∈ js, j ∈ own.map (·.2) := by exact of_decide_eq_true rfl) (hio : ∀ v ∈ own.map (·.2), v ∉ C.io := by exact of_decide_eq_true rfl) (hs : ∀ x, foldedSetIterable iter X.env x = pure x := by intro _; rfl) (hiy : i ∉ C.io := by exact of_decide_eq_true rfl) :
    DPS X C W (.Assign [.Name y py] (.ListComp elt [⟨tg, iter, ifs, 0⟩] scope pos) spos) (dSet i (dLc (own.map (·.2)) js ti tt te)) := by
  have m : MonoE (dLc (own.map (·.2)) js ti tt te) := mono_lc hi.mono
  refine ⟨(ps_setLc (tt := liftT X.K C W0 tt) (te := lift X.K C W0 te) hc hN hy hyl hsw hi.run ok hg (fun s H Cc cl fp => (ht s H Cc cl fp).run) (fun s H Cc cl fp => (he s H Cc cl fp).run) hs).imp fun D σ H ⟨HP, env, as, R, h⟩ => ?_, fun ex ex' env D D' hx hd h => m ex ex' env _ _ hx (fun v n q => q.imp hd.nx) h⟩
  refine lift_lc (W := W) (K := X.K) _ hi.mono (ht X.s_0 X.H_0 0 [] []).mono (he X.s_0 X.H_0 0 [] []).mono hjs hio (fun _ _ _ z => z) ⟨HP, env, as, R, m _ _ env _ _ (fun e n z => z.at σ) (fun v n q => ?_) h⟩
  intro v' HP' H' as' ts' R' x V
  have R2 : Rel X.K C HP' σ H' n as' (ts' ++ []) := by rw [List.append_nil]; exact R'
  obtain ⟨HP2, env2, as2, R3, x2, p⟩ := R2.asg V q hiy
  rw [List.append_nil, List.append_nil] at x2
  exact p _ HP2 H' as2 R3 (x.trans x2)
end
end L3

/-! L3M: x[:] = a list (the library's step for bounds of numbers, turned to no bounds). -/
namespace L3
open PySem PySem.Spec PyProof.Rows L2
set_option maxRecDepth 100000 in
theorem setItem_part {prog : Program} {w : World} {A : Around} {E : Value → Shared → Prop} {s : Shared} {lo hi : Option Int} {l b sl : Addr} {items new : Array Value} {n n2 : Nat} {vl vu : Value} {a c : Nat} {Q : Unit → Shared → Prop}
    (e : s.heap.get? l = some { cls := .type "list", data := .seq items n }) (e2 : s.heap.get? b = some { cls := .type "list", data := .seq new n2 }) (hne : l ≠ b)
    (hs : s.heap.IsSliceOf sl vl vu .none) (pl : IsPart vl lo) (pu : IsPart vu hi) (hbd : sliceBounds lo hi none items.size = ((a : Int), (c : Int), 1)) (hac : a ≤ c) (hc : c ≤ items.size)
    (hsz : items.size + new.size ≤ sizeLine) (h : Q () { s with heap := s.heap.update l (Obj.mapSeq fun xs => xs.extract 0 a ++ new ++ xs.extract c xs.size) }) :
    wpAny (model prog w) A (setItem (.ref l) (.ref sl) (.ref b)) Q E s := by
  have hl : s.heap.IsList l items := PySem.IsL.isList e
  have hb : s.heap.IsList b new := PySem.IsL.isList e2
  obtain ⟨os, hos, hcs, hds⟩ := id hs
  have hTs : s.TypeIs (.ref sl) "slice" := ⟨os, hos, hcs⟩
  have hstep : ¬ ((rawPart none == rawInt 0) = true) := Bool.false_ne_true
  have hsame : Builtin.List.listSameRef (.ref l) (.ref b) = false := by
    unfold Builtin.List.listSameRef
    exact beq_eq_false_iff_ne.mpr hne
  have hmax : (max (a : Int) (c : Int)).toNat = c := by omega
  have hz' : ((fun xs : Array Value => xs.extract 0 a ++ new ++ xs.extract c xs.size) items).size ≤ sizeLine + 1 := by
    simp only [Array.size_append, Array.size_extract]
    omega
  unfold setItem
  try with_reducible refine wpAny_holding ?_
  first | refine wpAny_bind (wpAny_pure ?_) | skip
  refine wpAny_bind (wpAny_sequenceKey hl.typeIs (by decide) ?_)
  refine wpAny_bind (wpAny_callSpecial?_slot (name := Str.ofString "__setitem__") hl.typeIs slot_list_setitem
    (wpAny_call_entry slot_list_setitem hl.typeIs entry_list_setitem ?_ (args_list_setitem _ _ _)))
  show wpAny _ _ (Builtin.List.listSubscript? (.ref sl) >>= _) _ _ s
  refine wpAny_bind ?_
  unfold Builtin.List.listSubscript?
  refine wpAny_bind (wpAny_specialOf hTs slice_no_index ?_)
  simp only [Option.isNone_none, if_true]
  refine wpAny_pure ?_
  show wpAny _ _ (typeOf (.ref sl) >>= _) _ _ s
  refine wpAny_bind (wpAny_typeOf hTs ?_)
  first
    | rw [if_neg (by decide)]
    | refine PySem.W.KFB.if_not (by decide) ?_
  rw [listSliceParts_eq]
  refine wpAny_bind (wpAny_bind (wpAny_field hos hds (x := .none) rfl (wpAny_bind (wpAny_listPart .none ?_))))
  rw [if_neg hstep]
  refine wpAny_bind (wpAny_field hos hds (x := vl) rfl (wpAny_bind (wpAny_listPart pl ?_)))
  refine wpAny_bind (wpAny_field hos hds (x := vu) rfl (wpAny_bind (wpAny_listPart pu (wpAny_pure ?_))))
  first
    | simp only [hsame, Bool.false_eq_true, if_false]
    | refine PySem.W.KFB.if_not hsame ?_
    | (dsimp only
       rw [if_neg (by rw [hsame]; exact Bool.false_ne_true)])
  refine wpAny_bind (m := Builtin.List.listAllItems (.ref b) "must assign iterable to extended slice") ?_
  unfold Builtin.List.listAllItems
  refine wpAny_bind (wpAny_typeOf hb.typeIs ?_)
  first
    | refine PySem.W.KFB.if_so (by decide) ?_
    | rw [if_pos (by decide)]
    | simp only [beq_self_eq_true, Bool.true_or, if_true]
  unfold Builtin.List.listItems
  refine wpAny_bind (wpAny_seqItems e2 rfl (wpAny_pure ?_))
  refine wpAny_bind (wpAny_bind (wpAny_seqItems e rfl (wpAny_pure ?_)))
  refine wpAny_bind (wpAny_of_eq ((sliceIndices_raw lo hi none items.size (by simp)).trans (congrArg (pure : Int × Int × Int → Sem (Int × Int × Int)) hbd)) ?_)
  show wpAny _ _ (if ((1 : Int) == 1) = true then _ else _) _ _ s
  rw [if_pos (by decide)]
  refine wpAny_bind (wpAny_rule ?_)
  first
    | simp only [notLongL hsz, Bool.false_eq_true, if_false]
    | refine PySem.W.KFB.if_not (notLongL hsz) ?_
  first | refine wpAny_bind (wpAny_pure ?_) | skip
  show wpAny _ _ (updateSeq l (fun xs => xs.extract 0 ((a : Int)).toNat ++ new ++ xs.extract (max (a : Int) (c : Int)).toNat xs.size) >>= _) _ _ s
  rw [hmax, Int.toNat_natCast]
  refine wpAny_bind (wpAny_updateSeq (hz := Nat.le_trans (Nat.le_add_right _ _) hsz) (_hz' := hz') e rfl ?_)
  refine wpAny_bind (wpAny_letGo ?_)
  first
    | exact wpAny_bind (wpAny_pure (wpAny_pure ⟨.none, rfl, wpAny_pure h⟩))
    | exact wpAny_pure ⟨.none, rfl, wpAny_pure h⟩
theorem bounds_all (n : Nat) : sliceBounds none none none n = (((0 : Nat) : Int), (n : Int), 1) := by
  simp [sliceBounds]
section
variable {X : Cx}
theorem set_all {pins : List (Addr × Obj)} {s : Shared} {σ : L2.St} {H : Hp} {l b sl : Addr} {xs ys : List V} {Q : Unit → Shared → Prop} (I : Inv X pins σ H s)
    (hH : H l = some (.lst xs)) (hB : H b = some (.lst ys)) (hne : l ≠ b) (hs : s.heap.IsSliceOf sl .none .none .none)
    (hz : xs.length + ys.length ≤ sizeLine) (h : ∀ s', Inv X pins σ (upd H l (.lst ys)) s' → Q () s') :
    wpAny (model X.prog X.w) X.A (setItem (.ref l) (.ref sl) (.ref b)) Q X.xe s := by
  obtain ⟨z, its, n, r, hl, e⟩ := I.lstM hH
  obtain ⟨z2, its2, n2, r2, hl2, e2⟩ := I.lstM hB
  have hl' : its.toArray.size = xs.length := by rw [List.size_toArray]; omega
  refine setItem_part (a := 0) (c := its.toArray.size) e e2 hne hs .none .none (bounds_all _) (Nat.zero_le _) (Nat.le_refl _) (by rw [List.size_toArray, List.size_toArray]; omega) (h _ ?_)
  refine I.lset (its' := its2) (t' := s.toks) hH e ?_ r2 z2
  apply Array.toList_inj.mp
  simp
/-- the target x[:] -/
def gAll (i : Nat) : TG := fun v σ H Q => ∃ l b xs ys, σ[i]? = some (some (.ref l)) ∧ v = .ref b ∧ H l = some (.lst xs) ∧ H b = some (.lst ys) ∧ l ≠ b ∧ xs.length + ys.length ≤ sizeLine ∧ Q σ (upd H l (.lst ys))
theorem pg_all {i : Nat} {x : Str} {p p2 ppos : Pos} (hN : X.N[i]? = some x) (hv : Vis X.env.scope x) (hd : (x == ("__debug__" : Str)) = false := by decide)
    (hcd : (x == ("__classdict__" : Str)) = false := by decide) (ha : ∀ v, assign (.Subscript (.Name x p) (.Slice none none none p2) ppos) X.env v = (do
      let ov ← holding [v] (eval (.Name x p) X.env)
      let iv ← holding [v, ov] (eval (.Slice none none none p2) X.env)
      standAt ppos
      holding [v, ov, iv] (setItem ov iv v)
      release [iv, v, ov] []) := by intro _; rfl) : PG X (.Subscript (.Name x p) (.Slice none none none p2) ppos) (gAll i) := by
  refine ⟨fun pins s σ H v u Q I r h => ?_⟩
  obtain ⟨l, b, xs, ys, e1, rfl, e3, e4, e5, e6, q⟩ := h
  cases r
  rw [ha]
  refine wpAny_bind (wpAny_holding (thn ((pe_var (pos := p) hN hv hd hcd).run pins s σ H (fun z H1 => z = .ref l ∧ H1 = H) I ⟨.ref l, e1, rfl, rfl⟩) fun ov s1 ⟨z, H1, I1, r1, q1⟩ => ?_))
  obtain ⟨rfl, rfl⟩ := q1
  cases r1
  refine wpAny_bind (wpAny_holding (wpAny_Slice ?_))
  rw [evalPart_none]
  refine wpAny_pure (wpAny_pure (wpAny_pure ?_))
  have I4 : Inv X pins σ H1 { s1 with heap := s1.heap.push { cls := .type "slice", data := .fields #[.none, .none, .none] } } := I1.kept (t' := s1.toks) fun b ob q => Heap.get?_push_of_some _ q
  refine wpAny_bind (wpAny_standAt (wpAny_bind (wpAny_holding (set_all I4 e3 e4 e5 (Heap.IsSliceOf.new ..) e6 fun s3 I5 => ?_))))
  exact wpAny_release ⟨σ, _, I5, q⟩
end
end L3

/-! L3N: isinstance, split, join, repr, x[:] = .., a statement that is never reached. -/
namespace L3
open PySem L2

/-! ### isinstance(e, T), T a built-in type -/
def tyD : PyData → String
  | .none => "NoneType" | .bool _ => "bool" | .int _ => "int" | .str _ => "str" | .list _ => "list" | .tuple _ => "tuple" | .dict _ => "dict"
def isiD (d : PyData) (T : String) : Bool := tyD d == T || (tyD d == "bool" && T == "int")
def isiTs : List String := ["int", "bool", "str", "list", "tuple", "dict"]
theorem isi_tab : ∀ a ∈ ["NoneType", "bool", "int", "str", "list", "tuple", "dict"], ∀ T ∈ isiTs, kitB a T = some (a == T || (a == "bool" && T == "int")) := by decide +kernel
theorem isi_kit {d : PyData} {T : String} (h : T ∈ isiTs) : kitB (tyD d) T = some (isiD d T) := isi_tab (tyD d) (by cases d <;> simp [tyD]) T h
theorem Rp.ty {K : PySem.W.Frag} {H : Hp} {v : V} {d : PyData} (r : Rp H v d) : TyX K H v (.type (tyD d)) := by
  cases r with
  | non => exact .base .non
  | bl b => exact .base (.bl b)
  | int i => exact .base (.int i)
  | str x => exact .base (.str x)
  | lst h _ => exact .base (.lst h)
  | tup h _ => exact .base (.tup h)
  | dct h _ => exact .base (.dK h)
def kIsi (T : String) : Vl → En → DK → Prop := fun v n Q => ∃ d, dat n v = some d ∧ Q (.tmp (.sh (.bool (isiD d T)))) n
theorem mono_isi {T} : MonoK1 (kIsi T) := fun a n Q Q' hq ⟨d, h1, h2⟩ => ⟨d, h1, hq _ _ h2⟩
abbrev dIsi (te : DE) (T : String) : DE := d1 te (kIsi T)
section
variable {X : Cx} {C : Ct} {W : WX} {e a b : Expr} {te ta tb : DE} {p p2 pos apos : Pos}
theorem ok_isi {K : PySem.W.Frag} {T : String} (hT : T ∈ isiTs) : Ok1 K C (fun x H Q => rIsi K [x, .ty T] H Q) (kIsi T) := fun σ HP H env as t1 va x Qd Q r q ⟨d, e, hq⟩ k => by
  have w := r.rp q e
  exact ⟨x, .ty T, _, _, isiD d T, rfl, .ty T, w.ty, kit_ty (isi_kit hT), (k _ _ hq).sh r (fun a ha => List.mem_append_left _ ha) (.bl _)⟩
theorem do_isi {T : String} (hT : T ∈ isiTs) (he : DP X C W e te) (hm : X.mg "isinstance" = none) (hmT : X.mg (Str.ofString T) = none) (hv : bootBuiltins (Str.ofString T) = some (.type T)) (hg : Gl X "isinstance" := by rfl) (hgT : Gl X (Str.ofString T) := by rfl) (hn : (Str.ofString T) ≠ "__name__" := by decide) (hd : ((Str.ofString T) == ("__debug__" : Str)) = false := by decide)
    (hs : starEach [e, .Name (Str.ofString T) p2] X.env = (false, eval e X.env) :: starEach [.Name (Str.ofString T) p2] X.env := by rfl) (hs2 : starEach [.Name (Str.ofString T) p2] X.env = (false, eval (.Name (Str.ofString T) p2) X.env) :: starEach [] X.env := by rfl) (hpl : (backTo pos (starEach [.Name (Str.ofString T) p2] X.env)).any (·.1) = false := by rfl) :
    DP X C W (.Call (.Name "isinstance" p) [e, .Name (Str.ofString T) p2] [] pos) (dIsi te T) := by
  refine ⟨(pe_callB call_isi hg hm PyProof.Rows.boot_isinstance (pa_cons he.run (pa_cons (pe_bltn (v := .ty T) hgT hmT hv rfl hn hd) pa_nil hs2) hs) (he := hs) (hpl := hpl)).imp fun σ H Q h => ?_, he.mono.d1 mono_isi⟩
  have q := lift1 he.mono (ok_isi hT) h
  obtain ⟨HP, env, as, R, q⟩ := q
  exact ⟨HP, env, as, R, he.mono _ _ env _ _ (fun _ _ z => z) (fun va n z => fun v HP' H' as' ts' r' x' V' => z v HP' H' as' ts' r' x' V') q⟩

/-! ### methods of a text with one argument -/
def dTx (ta tb : DE) (k : Vl → Vl → En → DK → Prop) : DE := fun ex env Q => ta ex env fun va n1 => (∃ a, dat n1 va = some (.str a)) ∧ tb ex n1 fun vb n2 => k va vb n2 Q
theorem mono_tx {k : Vl → Vl → En → DK → Prop} (ma : MonoE ta) (mb : MonoE tb) (mk : MonoK2 k) : MonoE (dTx ta tb k) := fun ex ex' env Q Q' he hq h =>
  ma ex ex' env _ _ he (fun va n ⟨h0, h1⟩ => ⟨h0, mb ex ex' n _ _ he (fun vb n2 h2 => mk va vb n2 Q Q' hq h2) h1⟩) h
theorem lift_tx {K : PySem.W.Frag} {k : Vl → Vl → En → DK → Prop} {r : V → List V → Hp → VK → Prop} (ma : MonoE ta) (mb : MonoE tb) (ok : Ok2 K C (fun x y H Q => r x [y] H Q) k) {σ : L2.St} {H : Hp} {Q : VK} (h : lift K C W (dTx ta tb k) σ H Q) : tM1 r (lift K C W ta) (lift K C W tb) σ H Q := by
  obtain ⟨HP, env, as, R, h⟩ := h
  refine ⟨HP, env, as, R, ma _ _ env _ _ (fun _ _ z => z) (fun va n ⟨⟨a, e0⟩, h1⟩ => ?_) h⟩
  intro x HP1 H1 as1 t1 R1 X1 V1
  have w := R1.rp V1 e0
  cases w
  refine ⟨⟨_, rfl⟩, HP1, n, as1, R1.nots, mb _ _ n _ _ (fun e n z => z.imp X1 fun a ha => List.mem_append_left _ ha) (fun vb n2 h2 => ?_) h1⟩
  intro y HP2 H2 as2 t2 R2 X2 V2
  obtain ⟨R3, st, X3⟩ := R1.pend X2 R2
  exact ok σ HP2 H2 n2 as2 t1 t2 va vb _ y _ Q R3 (V1.frame X2.ex st) V2 h2 fun val m q v HP' H' as' ts' R' X' V' => q v HP' H' as' ts' R' ((X1.trans X3).trans X') V'
def kSplit : Vl → Vl → En → DK → Prop := fun va vb n Q => ∃ a b, dat n va = some (.str a) ∧ dat n vb = some (.str b) ∧ (b.length == 0) = false ∧ a.length + 2 ≤ sizeLine ∧ Q (.tmp (.own ((Txt.split a b).map PyData.str))) n
def kJoin : Vl → Vl → En → DK → Prop := fun va vb n Q => ∃ a ys, dat n va = some (.str a) ∧ dat n vb = some (.list (ys.map PyData.str)) ∧ (ys.map (·.length)).sum + ys.length * a.length ≤ 16777216 ∧ Q (.tmp (.sh (.str (Txt.join a ys)))) n
theorem ok_split {K : PySem.W.Frag} : Ok2 K C (fun x y H Q => (fun (x : V) (xs : List V) (H : Hp) (Q : VK) => ∃ a b, x = .str a ∧ xs = [.str b] ∧ (b.length == 0) = false ∧ a.length + 2 ≤ sizeLine ∧ rNewStrs (Txt.split a b) H Q) x [y] H Q) kSplit := fun σ HP H env as t1 t2 va vb x y Qd Q r qa qb ⟨a, b, e1, e2, h3, h4, hq⟩ k => by
  have w1 := r.rp qa e1
  have w2 := r.rp qb e2
  cases w1; cases w2
  exact ⟨a, b, rfl, rfl, h3, h4, fun p hp => (k _ _ hq).own r (fun a ha => List.mem_append_left _ ha) hp (RpAll.ofStrs _)⟩
theorem ok_join {K : PySem.W.Frag} : Ok2 K C (fun x y H Q => (fun (x : V) (xs : List V) (H : Hp) (Q : VK) => ∃ a p, ∃ ys : List Str, x = .str a ∧ xs = [.ref p] ∧ (SqL K H p (ys.map V.str) ∨ SqT K H p (ys.map V.str)) ∧
      (ys.map (·.length)).sum + ys.length * a.length ≤ 16777216 ∧ Q (.str (Txt.join a ys)) H) x [y] H Q) kJoin := fun σ HP H env as t1 t2 va vb x y Qd Q r qa qb ⟨a, ys, e1, e2, h3, hq⟩ k => by
  have w1 := r.rp qa e1
  have w2 := r.rp qb e2
  cases w1
  cases w2 with
  | lst g w =>
    have e := w.strs
    subst e
    exact ⟨a, _, ys, rfl, rfl, .inl (SqL.of g), h3, (k _ _ hq).sh r (fun a ha => List.mem_append_left _ ha) (.str _)⟩
theorem do_split (ha : DP X C W a ta) (hb : DP X C W b tb) (hs : starEach [b] X.env = [(false, eval b X.env)] := by rfl) (hbase : attributeBase a "split" X.env (eval a X.env) = eval a X.env := by rfl) (hline : (apos.endLine == pos.line) = true := by rfl) : DP X C W (.Call (.Attribute a "split" apos) [b] [] pos) (dTx ta tb kSplit) :=
  ⟨(pe_split ha.run hb.run hs hbase hline).imp fun σ H Q h => lift_tx ha.mono hb.mono ok_split h, mono_tx ha.mono hb.mono fun a b n Q Q' hq ⟨x, y, h1, h2, h3, h4, h5⟩ => ⟨x, y, h1, h2, h3, h4, hq _ _ h5⟩⟩
theorem do_join (ha : DP X C W a ta) (hb : DP X C W b tb) (hs : starEach [b] X.env = [(false, eval b X.env)] := by rfl) (hbase : attributeBase a "join" X.env (eval a X.env) = eval a X.env := by rfl) (hline : (apos.endLine == pos.line) = true := by rfl) : DP X C W (.Call (.Attribute a "join" apos) [b] [] pos) (dTx ta tb kJoin) :=
  ⟨(pe_join ha.run hb.run hs hbase hline).imp fun σ H Q h => lift_tx ha.mono hb.mono ok_join h, mono_tx ha.mono hb.mono fun a b n Q Q' hq ⟨x, y, h1, h2, h3, h4⟩ => ⟨x, y, h1, h2, h3, hq _ _ h4⟩⟩
end

/-! ### repr of data -/
/-- a list or a tuple that repr can show -/
def reprD (d : PyData) : Bool := (match d with | .list _ => true | .tuple _ => true | _ => false) && d.canLay0 && d.showable && decide (d.depth ≤ 64) && decide (d.shown.length ≤ sizeLine)
theorem call_reprD {X : Cx} {k : Nat} (hr : Room k X.A) (gd : X.A.guards = some []) : CallR X (.builtin "repr") (fun xs H Q => ∃ x d, xs = [x] ∧ Dp X.K H x d ∧ reprD d = true ∧ Q (.str d.shown) H) := by
  intro pins s σ H xs us Q I r h
  obtain ⟨x, d, rfl, hd, hs, q⟩ := h
  obtain ⟨u, rfl, ru⟩ := vals1 r
  unfold reprD at hs
  simp only [Bool.and_eq_true, decide_eq_true_eq] at hs
  obtain ⟨⟨⟨⟨h0, h1⟩, h2⟩, h3⟩, h4⟩ := hs
  obtain ⟨as, rd⟩ := Dp.reads I d x u hd ru
  have hu : X.A.units + (d.depth + 1) < cLine := by have := hr.un; omega
  have nd : d.hasDict = true → sysModules ∉ as := PyData.noDict_hsm (PyData.hasDict_of_canLay d h1)
  have main : ∀ a, u = .ref a → wpAny (model X.prog X.w) X.A (call (.builtin "repr") [u]) (EP X pins σ Q) X.xe s := fun a e => by
    subst e
    exact repr_of_reads' rd h2 nd gd hu (fun _ _ e => e) (fun h' u tk hk => ⟨.str _, H, I.kept (t' := tk) hk, ⟨u, rfl⟩, q⟩) h4
  cases d with
  | list xs => cases rd; exact main _ rfl
  | tuple xs => cases rd; exact main _ rfl
  | _ => cases h0
def fRepr (d : PyData) : Option PyData := if reprD d = true then some (.str d.shown) else none
def kRepr : List Vl → En → DK → Prop := kF1 fRepr
section
variable {X : Cx} {C : Ct} {W : WX} {p pos : Pos} {e : Expr} {ta : DA}
theorem do_repr {k : Nat} (hr : Room k X.A) (gd : X.A.guards = some []) (hm : X.mg "repr" = none) (ha : DPA X C W [e] ta) (hg : Gl X "repr" := by rfl) (he : starEach [e] X.env = (false, eval e X.env) :: starEach [] X.env := by rfl) (hpl : (backTo pos (starEach [] X.env)).any (·.1) = false := by rfl) :
    DP X C W (.Call (.Name "repr" p) [e] [] pos) (dN ta (kF1 fRepr)) :=
  do_callB (call_reprD hr gd) (ok_F1 fun H x d z Q a h k => by
    unfold fRepr at h
    by_cases hs : reprD d = true
    · rw [if_pos hs] at h
      cases Option.some.inj h
      have hl : d.canLay0 = true := by
        unfold reprD at hs
        simp only [Bool.and_eq_true] at hs
        exact hs.1.1.1.2
      exact ⟨x, d, rfl, a.dp hl, hs, k _ fun _ => .str _⟩
    · rw [if_neg hs] at h; cases h) mono_F1 hm PyProof.Rows.boot_repr ha hg (by decide) (by decide) he hpl
end

/-! ### x[:] = a list just made -/
def dAll (i : Nat) (te : DE) : DS := fun ex env D => te ex env fun v n => ∃ xs ys, n[i]? = some (some (.own xs)) ∧ v = .tmp (.own ys) ∧ xs.length + ys.length ≤ sizeLine ∧ D.nx (n.set i (some (.own ys)))
theorem ds_all {X : Cx} {C : Ct} {W : WX} {i : Nat} {x : Str} {p p2 ppos pos : Pos} {e : Expr} {te : DE} (he : DP X C W e te) (hN : X.N[i]? = some x := by rfl) (hv : Vis X.env.scope x := by first | exact Or.inl rfl | exact Or.inr (Or.inl rfl) | exact Or.inr (Or.inr rfl)) (hd : (x == ("__debug__" : Str)) = false := by decide)
    (hcd : (x == ("__classdict__" : Str)) = false := by decide) (ha : ∀ v, assign (.Subscript (.Name x p) (.Slice none none none p2) ppos) X.env v = (do
      let ov ← holding [v] (eval (.Name x p) X.env)
      let iv ← holding [v, ov] (eval (.Slice none none none p2) X.env)
      standAt ppos
      holding [v, ov, iv] (setItem ov iv v)
      release [iv, v, ov] []) := by intro _; rfl) (hs : swapsWithSole [.Subscript (.Name x p) (.Slice none none none p2) ppos] e pos.line X.env = pure false := by rfl) (hw : swappedStores [.Subscript (.Name x p) (.Slice none none none p2) ppos] e X.env = pure none := by rfl)
    (h1 : (assignEach [.Subscript (.Name x p) (.Slice none none none p2) ppos] X.env).map (·.2) = [assign (.Subscript (.Name x p) (.Slice none none none p2) ppos) X.env] := by rfl) : DPS X C W (.Assign [.Subscript (.Name x p) (.Slice none none none p2) ppos] e pos) (dAll i te) := by
  refine ⟨(ps_asg he.run (pg_all hN hv hd hcd ha) hs hw h1).imp fun D σ H ⟨HP, env, as, R, h⟩ => ⟨HP, env, as, R, he.mono _ _ env _ _ (fun e n z => z.at σ) (fun v n q => ?_) h⟩, fun ex ex' env D D' hx hd h => he.mono ex ex' env _ _ hx (fun v n ⟨xs, ys, h1, h2, h3, h4⟩ => ⟨xs, ys, h1, h2, h3, hd.nx _ h4⟩) h⟩
  intro y HP1 H1 as1 t1 R1 x1 V1
  obtain ⟨xs, ys, e1, rfl, hz, q⟩ := q
  obtain ⟨b, vs, rfl, rfl, g3, g4⟩ := V1
  obtain ⟨a, ws, f1, f2, f3, f4, f5⟩ := R1.mut e1
  have hne : a ≠ b := (List.nodup_append.mp R1.nd).2.2 a f4 b (by simp)
  obtain ⟨R3, x3⟩ := f5 vs ys g4
  exact ⟨a, b, ws, vs, f1, rfl, f2, g3, hne, by rw [f3.length, g4.length]; exact hz, q σ HP1 _ as1 R3.nots ((x1.cut).trans x3)⟩

/-! ### never reached -/
def dDead : DS := fun _ _ _ => False
theorem ds_dead {X : Cx} {C : Ct} {W : WX} {st : Stmt} : DPS X C W st dDead := ⟨⟨fun _ _ _ _ _ _ ⟨_, _, _, _, h⟩ => h.elim⟩, fun _ _ _ _ _ _ _ h => h.elim⟩
end L3

/-! L3P: short forms for the printer. -/
namespace L3
open PySem L2
section
variable {X : Cx} {C : Ct} {W : WX} {p pos : Pos} {e : Expr} {es : List Expr} {ta : DA}
theorem do_max2 (hc : X.calm = true) (hm : X.mg "max" = none) (ha : DPA X C W (e :: es) ta) (hg : Gl X "max" := by rfl) (he : starEach (e :: es) X.env = (false, eval e X.env) :: starEach es X.env := by rfl) (hpl : (backTo pos (starEach es X.env)).any (·.1) = false := by rfl) : DP X C W (.Call (.Name "max" p) (e :: es) [] pos) (dN ta (kF2 fMax2)) :=
  do_callB (call_max2 hc) ok_max2 mono_F2 hm PyProof.Rows.boot_max ha hg (by decide) (by decide) he hpl
theorem do_min2 (hc : X.calm = true) (hm : X.mg "min" = none) (ha : DPA X C W (e :: es) ta) (hg : Gl X "min" := by rfl) (he : starEach (e :: es) X.env = (false, eval e X.env) :: starEach es X.env := by rfl) (hpl : (backTo pos (starEach es X.env)).any (·.1) = false := by rfl) : DP X C W (.Call (.Name "min" p) (e :: es) [] pos) (dN ta (kF2 fMin2)) :=
  do_callB (call_min2 hc) ok_min2 mono_F2 hm PyProof.Rows.boot_min ha hg (by decide) (by decide) he hpl
theorem do_len (hm : X.mg "len" = none) (ha : DPA X C W (e :: es) ta) (hg : Gl X "len" := by rfl) (he : starEach (e :: es) X.env = (false, eval e X.env) :: starEach es X.env := by rfl) (hpl : (backTo pos (starEach es X.env)).any (·.1) = false := by rfl) : DP X C W (.Call (.Name "len" p) (e :: es) [] pos) (dN ta kLen) :=
  do_callB (call_len.or call_lenD) ok_len mono_len hm PySem.boot_len ha hg (by decide) (by decide) he hpl
theorem do_int (hm : X.mg "int" = none) (ha : DPA X C W (e :: es) ta) (hg : Gl X "int" := by rfl) (he : starEach (e :: es) X.env = (false, eval e X.env) :: starEach es X.env := by rfl) (hpl : (backTo pos (starEach es X.env)).any (·.1) = false := by rfl) : DP X C W (.Call (.Name "int" p) (e :: es) [] pos) (dN ta (kF1 fInt)) :=
  do_callTy (call_int1.or call_int_str) ok_int1 mono_F1 hm PyProof.Rows.boot_int ha hg (by decide) (by decide) he hpl
theorem do_str (hm : X.mg "str" = none) (ha : DPA X C W (e :: es) ta) (hg : Gl X "str" := by rfl) (he : starEach (e :: es) X.env = (false, eval e X.env) :: starEach es X.env := by rfl) (hpl : (backTo pos (starEach es X.env)).any (·.1) = false := by rfl) : DP X C W (.Call (.Name "str" p) (e :: es) [] pos) (dN ta (kF1 fStr)) :=
  do_callTy call_str_int ok_str1 mono_F1 hm PyProof.Rows.boot_str ha hg (by decide) (by decide) he hpl
theorem do_sum (hc : X.calm = true) (hm : X.mg "sum" = none) (ha : DPA X C W (e :: es) ta) (hg : Gl X "sum" := by rfl) (he : starEach (e :: es) X.env = (false, eval e X.env) :: starEach es X.env := by rfl) (hpl : (backTo pos (starEach es X.env)).any (·.1) = false := by rfl) : DP X C W (.Call (.Name "sum" p) (e :: es) [] pos) (dN ta (kF1 fSum)) :=
  do_callB (cr_sum hc) ok_sum mono_F1 hm PyProof.Rows.boot_sum ha hg (by decide) (by decide) he hpl
theorem do_all (hc : X.calm = true) (hm : X.mg "all" = none) (ha : DPA X C W (e :: es) ta) (hg : Gl X "all" := by rfl) (he : starEach (e :: es) X.env = (false, eval e X.env) :: starEach es X.env := by rfl) (hpl : (backTo pos (starEach es X.env)).any (·.1) = false := by rfl) : DP X C W (.Call (.Name "all" p) (e :: es) [] pos) (dN ta (kF1 fAll)) :=
  do_callB (cr_all hc) ok_all mono_F1 hm PyProof.Rows.boot_all ha hg (by decide) (by decide) he hpl
theorem do_max (hc : X.calm = true) (hm : X.mg "max" = none) (ha : DPA X C W (e :: es) ta) (hg : Gl X "max" := by rfl) (he : starEach (e :: es) X.env = (false, eval e X.env) :: starEach es X.env := by rfl) (hpl : (backTo pos (starEach es X.env)).any (·.1) = false := by rfl) : DP X C W (.Call (.Name "max" p) (e :: es) [] pos) (dN ta (kF1 fMax)) :=
  do_callB (cr_max hc) ok_max mono_F1 hm PyProof.Rows.boot_max ha hg (by decide) (by decide) he hpl
theorem do_min (hc : X.calm = true) (hm : X.mg "min" = none) (ha : DPA X C W (e :: es) ta) (hg : Gl X "min" := by rfl) (he : starEach (e :: es) X.env = (false, eval e X.env) :: starEach es X.env := by rfl) (hpl : (backTo pos (starEach es X.env)).any (·.1) = false := by rfl) : DP X C W (.Call (.Name "min" p) (e :: es) [] pos) (dN ta (kF1 fMin)) :=
  do_callB (cr_min hc) ok_min mono_F1 hm PyProof.Rows.boot_min ha hg (by decide) (by decide) he hpl
end

/-- a def at a: what it promises, how it is called -/
structure Cal (P : Program) (w : World) (K : PySem.W.Frag) (mg : Str → Option Value) (base : Heap) (a : Addr) (k : Nat) (ps : List Str) (cls : Str → Value) (io : List Nat) (sp : DSp) : Prop where
  ex : ∃ fd, FnG P w K mg base (L2.CX P w) k a fd ps (liftSp K cls io sp) ∧ PySem.W.keepIn K (.ref a) = true ∧ Binds K fd ps []
abbrev FnP (K : PySem.W.Frag) (x : Str) (st : Stmt) (f : Addr) (fd : FuncData) : Prop := FunD K x x (defArgs st) (defBody st) (defScope st) [] [] f fd
section
variable {X : Cx} {C : Ct} {W : WX} {k : Nat} {a : Addr} {ps : List Str} {x : Str} {p pos : Pos} {e : Expr} {es : List Expr} {ta : DA} {spd : DSp} {io : List Nat}
theorem do_callC (ms : List Md) (Fc : Cal X.prog X.w X.K X.mg X.base a k ps C.cls io spd) (hr : Room k X.A) (gd : X.A.guards = some []) (tk : Takes X W) (msp : MonoSp spd) (ha : DPA X C W (e :: es) ta) (hm : X.mg x = some (.ref a)) (hio : io = ioOf 0 ms := by rfl) (hg : Gl X x := by rfl)
    (hdb : (x == ("__debug__" : Str)) = false := by decide) (he : starEach (e :: es) X.env = (false, eval e X.env) :: starEach es X.env := by rfl) (hpl : (backTo pos (starEach es X.env)).any (·.1) = false := by rfl) : DP X C W (.Call (.Name x p) (e :: es) [] pos) (dCall ms [] spd ta) := by
  obtain ⟨fd, F, hk, hb⟩ := Fc.ex
  exact do_call F hr gd tk msp ha hg hm hk hb .nil (fun _ => .nil) hio hdb he hpl
theorem calF {P : Program} {w : World} {K : PySem.W.Frag} {mg : Str → Option Value} {base : Heap} {st : Stmt} {f : Addr} {fd : FuncData} {N ps : List Str} {cls : Str → Value} {sp : DSp} {t : DS} (F : FnP K x st f fd) (S : FnScope N ps (defScope st))
    (len : ∀ ss Q E, sp ss Q E → ss.length = ps.length) (hio : io.Nodup) (hio2 : ∀ k ∈ io, k < ps.length)
    (hbody : ∀ (cdv : Value) (A : Around) (outer : List Env) (s : Shared) (H : Hp) (vs : List V) (E : XK) (as : List Addr), A.guards = some [] → Room k (A.deeper (PyProof.Rows.envOfC x (defScope st) s.heap.objs.size f cdv)) →
      Takes (cxOf (L2.CX P w) P w K mg base N x (defScope st) f cdv A outer s H E) (fun (c : Value) (d : Option Addr) (_ : L2.St) (H1 : Hp) => E c d H1) →
      DPB (cxOf (L2.CX P w) P w K mg base N x (defScope st) f cdv A outer s H E) (ctOf cls io H as vs) (fun (c : Value) (d : Option Addr) (_ : L2.St) (H1 : Hp) => E c d H1) (defBody st) t)
    (hsp : ∀ ss Q E, sp ss Q E → t (excK io E) (ss.map some ++ List.replicate (N.length - ps.length) none) ⟨fun n => retK io Q (.sh .none) n, retK io Q, fun _ => False, fun _ => False⟩) : FnG P w K mg base (L2.CX P w) (k + 1) f fd ps (liftSp K cls io sp) :=
  fnD (He5.fun_of F) S len hio hio2 (fun cdv A outer s H vs E as gd hr => hbody cdv A outer s H vs E as gd hr (takes_of rfl rfl rfl rfl)) hsp
theorem calD {P : Program} {w : World} {K : PySem.W.Frag} {mg : Str → Option Value} {base : Heap} {st : Stmt} {f : Addr} {fd : FuncData} {N ps : List Str} {cls : Str → Value} {sp : DSp} {t : DS} (F : FnP K x st f fd) (hb : Binds K fd ps []) (S : FnScope N ps (defScope st))
    (len : ∀ ss Q E, sp ss Q E → ss.length = ps.length) (hio : io.Nodup) (hio2 : ∀ k ∈ io, k < ps.length)
    (hbody : ∀ (cdv : Value) (A : Around) (outer : List Env) (s : Shared) (H : Hp) (vs : List V) (E : XK) (as : List Addr), A.guards = some [] → Room k (A.deeper (PyProof.Rows.envOfC x (defScope st) s.heap.objs.size f cdv)) →
      Takes (cxOf (L2.CX P w) P w K mg base N x (defScope st) f cdv A outer s H E) (fun (c : Value) (d : Option Addr) (_ : L2.St) (H1 : Hp) => E c d H1) →
      DPB (cxOf (L2.CX P w) P w K mg base N x (defScope st) f cdv A outer s H E) (ctOf cls io H as vs) (fun (c : Value) (d : Option Addr) (_ : L2.St) (H1 : Hp) => E c d H1) (defBody st) t)
    (hsp : ∀ ss Q E, sp ss Q E → t (excK io E) (ss.map some ++ List.replicate (N.length - ps.length) none) ⟨fun n => retK io Q (.sh .none) n, retK io Q, fun _ => False, fun _ => False⟩) : Cal P w K mg base f (k + 1) ps cls io sp :=
  ⟨fd, fnD (He5.fun_of F) S len hio hio2 (fun cdv A outer s H vs E as gd hr => hbody cdv A outer s H vs E as gd hr (takes_of rfl rfl rfl rfl)) hsp, F.kp, hb⟩
end
theorem db_dead {X : Cx} {C : Ct} {W : WX} {sts : List Stmt} : DPB X C W sts dDead := ⟨⟨fun _ _ _ _ _ _ ⟨_, _, _, _, h⟩ => h.elim⟩, fun _ _ _ _ _ _ _ h => h.elim⟩
theorem dgI {X : Cx} {C : Ct} {W : WX} {x : Str} {i : Int} {pos : Pos} (h : ∃ t, X.mg x = some (.int i t)) (hg : Gl X x := by rfl) (hdb : (x == ("__debug__" : Str)) = false := by decide) : DP X C W (.Name x pos) (dC (.int i)) := by
  obtain ⟨t, h⟩ := h
  exact dg hg h (v := .int i) ⟨t, rfl⟩ (fun _ => .int _) hdb
theorem dgS {X : Cx} {C : Ct} {W : WX} {x z : Str} {pos : Pos} (h : ∃ t, X.mg x = some (.str z t)) (hg : Gl X x := by rfl) (hdb : (x == ("__debug__" : Str)) = false := by decide) : DP X C W (.Name x pos) (dC (.str z)) := by
  obtain ⟨t, h⟩ := h
  exact dg hg h (v := .str z) ⟨t, rfl⟩ (fun _ => .str _) hdb
theorem sqTop {K : PySem.W.Frag} {H : Hp} {a : Addr} {xs : List V} (hS : SqL K H a xs) : SqL K (hid H []) a xs := SqL.ext hS fun b o e => hid_of e (fun z => by cases z)
/-- the law's def at the top -/
theorem sp_top {K : PySem.W.Frag} {sp : DSp} {H : Hp} {a : Addr} {ns : List Int} (hS : SqL K H a (ns.map V.int)) (h : ∀ Q E, Q (.sh (.bool true)) [] → sp [.scr ns] Q E) :
    liftSp K (fun _ => Value.none) [] sp [.ref a] H (fun v _ => v = .bl true) fun _ _ _ => False := by
  refine ⟨fun _ => none, [], [.scr ns], ⟨fun _ _ e => (by cases e), hid_same H [], ⟨[], [], rfl, ⟨a, rfl, rfl, sqTop hS⟩, rfl⟩, by simp, fun b hb => (by cases hb), fun k hk => (by cases hk)⟩, h _ _ fun v HP' H' as' ts' _ q => ?_⟩
  obtain ⟨q, _⟩ := q
  cases q
  rfl
theorem cx_top {P : Program} {w : World} {H : Hp} {s : Shared} {e : Value} {s' : Shared} (h : L2.CX P w [] H s (fun _ _ _ => False) e s') : False := by
  obtain ⟨_, _, _, _, _, _, _, _, _, _, _, _, z⟩ := h
  exact z
end L3

/-! L3Q: repr of a display of lent things; law 66's block that changes what a list just made holds. -/
namespace L3
open PySem L2

def dats (n : En) : List Vl → Option (List PyData)
  | [] => some []
  | v :: vs => (dat n v).bind fun d => (dats n vs).map fun ds => d :: ds
theorem Rel.rps {K : PySem.W.Frag} {C : Ct} {HP H : Hp} {σ : L2.St} {n : En} {as ts : List Addr} (r : Rel K C HP σ H n as ts) : ∀ {vals : List Vl} {vs : List V} {t : List Addr} {ds : List PyData}, RepVs K C HP H σ vals vs t → dats n vals = some ds → RpAll H vs ds
  | [], vs, t, ds, q, e => by
    cases Option.some.inj e
    obtain ⟨rfl, rfl⟩ := q
    exact .nil
  | v :: vals, vs, t, ds, q, e => by
    obtain ⟨x, w, t1, t2, rfl, rfl, q1, q2⟩ := q
    unfold dats at e
    cases e1 : dat n v with
    | none => rw [e1] at e; cases e
    | some d =>
      rw [e1] at e
      cases e2 : dats n vals with
      | none => rw [e2] at e; cases e
      | some ds' =>
        rw [e2] at e
        cases Option.some.inj e
        exact .cons (r.rp q1 e1) (Rel.rps r q2 e2)
/-- repr([e, ..]): what is shown need not be kept -/
def dReprL (ta : DA) : DE := fun ex env Q => ta ex env fun vals n => ∃ ds, dats n vals = some ds ∧ reprD (.list ds) = true ∧ ds.length ≤ sizeLine ∧ Q (.tmp (.sh (.str (PyData.list ds).shown))) n
theorem mono_reprL {ta : DA} (ma : MonoA ta) : MonoE (dReprL ta) := fun ex ex' env Q Q' hx hq h => ma ex ex' env _ _ hx (fun vals n ⟨ds, h1, h2, h3, h4⟩ => ⟨ds, h1, h2, h3, hq _ _ h4⟩) h
theorem reprD_lay {d : PyData} (h : reprD d = true) : d.canLay0 = true := by
  unfold reprD at h
  simp only [Bool.and_eq_true] at h
  exact h.1.1.1.2
section
variable {X : Cx} {C : Ct} {W : WX} {p p2 pos : Pos} {es : List Expr} {ta : DA}
theorem do_reprL {k : Nat} (hr : Room k X.A) (gd : X.A.guards = some []) (hm : X.mg "repr" = none) (ha : DPA X C W es ta) (hg : Gl X "repr" := by rfl) (he : starEach [.List es p2] X.env = (false, eval (.List es p2) X.env) :: starEach [] X.env := by rfl) (hpl : (backTo pos (starEach [] X.env)).any (·.1) = false := by rfl) :
    DP X C W (.Call (.Name "repr" p) [.List es p2] [] pos) (dReprL ta) := by
  refine ⟨(pe_callB (call_reprD hr gd) hg hm PyProof.Rows.boot_repr (pa_cons (pe_lst ha.run) pa_nil he) (he := he) (hpl := hpl)).imp fun σ H Q h => ?_, mono_reprL ha.mono⟩
  obtain ⟨HP, env, as, R, h⟩ := h
  refine ⟨HP, env, as, R, ha.mono _ _ env _ _ (fun _ _ z => z) (fun vals n ⟨ds, e1, e2, hz, q⟩ => ?_) h⟩
  intro vs HP1 H1 as1 ts R1 x1 V
  have ra := R1.rps V e1
  refine ⟨by rw [ra.length]; exact hz, fun a hp => ?_⟩
  have rw_ : Rp (upd H1 a (.lst vs)) (.ref a) (.list ds) := .lst upd_same (ra.mono (Same.put hp))
  exact ⟨_, .list ds, rfl, rw_.dp (reprD_lay e2), e2, q _ HP1 _ as1 [] (R1.nots.new hp) (by rw [List.append_nil]; exact x1.cut.trans (Stp.new hp)) ⟨.str _, rfl⟩⟩
end
/-- an own temporary changes -/
theorem Rel.mutE {K : PySem.W.Frag} {C : Ct} {HP H : Hp} {σ : L2.St} {n : En} {as ts : List Addr} {D : Addr} {o : HO} (r : Rel K C HP σ H n as ts) (hD : D ∈ ts) : Rel K C HP σ (upd H D o) n as ts ∧ Stp HP H (as ++ ts) HP (upd H D o) (as ++ ts) := by
  have q := r.own D (List.mem_append_right _ hD)
  have ne : ∀ b ∈ as, b ≠ D := fun b hb z => (List.nodup_append.mp r.nd).2.2 b hb D hD z
  refine ⟨⟨fun b u e => ?_, fun b u e => ?_, r.rep.frame (Same.refl _) fun b hb => upd_ne (ne b hb), r.nd, fun b hb => ?_, r.pin⟩, Same.refl _, fun b u e n => ?_, fun b h => .inl h, fun _ _ h => .inl h, fun b h => ?_⟩
  · rw [upd_ne (fun z => by subst z; rw [q.1] at e; cases e)]; exact r.exP b u e
  · rw [upd_ne (fun z => by subst z; rw [q.2.1] at e; cases e)]; exact r.exB b u e
  · have w := r.own b hb
    refine ⟨w.1, w.2.1, ?_⟩
    by_cases z : b = D
    · rw [z, upd_same]; exact fun q => nomatch q
    · rw [upd_ne z]; exact w.2.2
  · rw [upd_ne (fun z => n (by rw [z]; exact List.mem_append_right _ hD))]; exact e
  · by_cases z : b = D
    · rw [z, upd_same] at h; cases h
    · rw [upd_ne z] at h; exact h

/-! ### told = [e1, e2]; if repr(told) != kept: return False; told[0].append(9); told[1].reverse(); told[1].append(-1) -/
def dTold (i j : Nat) (ta : DA) : DS := fun ex env D => ta ex env fun vals n => ∃ xs ys k, vals = [.tmp (.own xs), .tmp (.own ys)] ∧ i < n.length ∧ i ≠ j ∧ n[j]? = some (some (.sh (.str k))) ∧
  reprD (.list [.list xs, .list ys]) = true ∧ (PyData.list [.list xs, .list ys]).shown = k ∧ xs.length < sizeLine ∧ ys.length < sizeLine ∧ D.nx (n.set i none)
section
variable {X : Cx} {C : Ct} {W : WX} {i j : Nat} {ta : DA} {s1 s2 s3 s4 s5 : Stmt} {u2 : TS} {es : List Expr}
abbrev rReprD (K : PySem.W.Frag) : List V → Hp → VK → Prop := fun xs H Q => ∃ x d, xs = [x] ∧ Dp K H x d ∧ reprD d = true ∧ Q (.str d.shown) H
theorem db_told (hio : i ∉ C.io) (P1 : PA X es (liftA X.K C W ta) → PS X s1 (tAsg (tLst (liftA X.K C W ta)) (gName i))) (ha : DPA X C W es ta) (P2 : PS X s2 (tIfS (tTest (tOp rNe (tCB (rReprD X.K) (tCons (tVar i) tNil)) (tVar j))) u2 tNext))
    (P3 : PS X s3 (tDrop (tBM X.K "list" rAppend (tOp (rIxL X.K) (tVar i) (tC (.int 0))) (tCons (tC (.int 9)) tNil)))) (P4 : PS X s4 (tDrop (tBM0 X.K "list" rReverse (tOp (rIxL X.K) (tVar i) (tC (.int 1))))))
    (P5 : PS X s5 (tDrop (tBM X.K "list" rAppend (tOp (rIxL X.K) (tVar i) (tC (.int 1))) (tCons (tUn (rU fun i => .int (-i)) (tC (.int 1))) tNil)))) : DPB X C W [s1, s2, s3, s4, s5] (dTold i j ta) := by
  have ma := ha.mono
  refine ⟨(pss_cons (P1 ha.run) (pss_cons P2 (pss_cons P3 (pss_cons P4 (pss_one P5))))).imp fun D σ H ⟨HP, env, as, R, h⟩ => ⟨HP, env, as, R, ma _ _ env _ _ (fun e n z => z.at σ) (fun vals n q => ?_) h⟩, fun ex ex' env D D' hx hd h => ma ex ex' env _ _ hx (fun vals n ⟨xs, ys, k, h1, h2, h3, h4, h5, h6, h7, h8, h9⟩ => ⟨xs, ys, k, h1, h2, h3, h4, h5, h6, h7, h8, hd.nx _ h9⟩) h⟩
  intro vs HP1 H1 as1 ts R1 x1 Vr
  obtain ⟨xs, ys, k, rfl, hl, hij, hk, hs, he, hzx, hzy, q⟩ := q
  obtain ⟨y1, y2, t1, t2, rfl, rfl, ⟨a, us, rfl, rfl, ha1, ra⟩, ⟨b, ws, rfl, rfl, hb1, rb⟩⟩ := Vr.two
  refine ⟨by show 2 ≤ sizeLine; decide, fun p hp => ?_⟩
  have R2 := R1.newT (o := .lst [.ref a, .ref b]) hp
  have x2 : Stp HP1 H1 (as1 ++ ([a] ++ [b])) HP1 (upd H1 p (.lst [.ref a, .ref b])) (as1 ++ (p :: ([a] ++ [b]))) := Stp.newT hp fun c hc => by
    simp at hc ⊢
    rcases hc with z | z | z | z <;> simp [z]
  have ndp : p ≠ a ∧ p ≠ b ∧ a ≠ b := by
    have := (List.nodup_append.mp R2.nd).2.1
    simp at this
    exact ⟨this.1.1, this.1.2, this.2⟩
  obtain ⟨as2, R3, m3⟩ := R2.clr (i := i)
  have hs0 : i < σ.length := by rw [R1.rep.len]; exact hl
  have R4 : Rel X.K C HP1 (σ.set i (some (.ref p))) (upd H1 p (.lst [.ref a, .ref b])) (n.set i none) as2 (p :: ([a] ++ [b])) := R3.cong (by simp) (fun m s e => by
    have : i ≠ m := fun z => by
      subst z
      rw [List.getElem?_set_self (by simpa using hl)] at e
      cases e
    rw [List.getElem?_set_ne this]) fun m hm => by rw [List.getElem?_set_ne (fun z => hio (by rw [z]; exact hm))]
  have x4 : Stp HP1 H1 (as1 ++ ([a] ++ [b])) HP1 (upd H1 p (.lst [.ref a, .ref b])) (as2 ++ (p :: ([a] ++ [b]))) := x2.less fun c hc => (List.mem_append.mp hc).elim (fun z => List.mem_append_left _ (m3 c z)) fun z => List.mem_append_right _ z
  have vi : (σ.set i (some (V.ref p)))[i]? = some (some (.ref p)) := List.getElem?_set_self hs0
  have vj : (σ.set i (some (V.ref p)))[j]? = some (some (.str k)) := by
    obtain ⟨v, aa, f1, f2, _⟩ := R4.slot (i := j) (s := .sh (.str k)) (by rw [List.getElem?_set_ne hij]; exact hk)
    obtain ⟨f2, _⟩ := f2
    cases f2
    exact f1
  have pa : (upd H1 p (.lst [.ref a, .ref b])) a = some (.lst us) := by rw [upd_ne (Ne.symm ndp.1)]; exact ha1
  have pb : (upd H1 p (.lst [.ref a, .ref b])) b = some (.lst ws) := by rw [upd_ne (Ne.symm ndp.2.1)]; exact hb1
  have rp : Rp (upd H1 p (.lst [.ref a, .ref b])) (.ref p) (.list [.list xs, .list ys]) := .lst upd_same (.cons (.lst pa (ra.mono R4.exP)) (.cons (.lst pb (rb.mono R4.exP)) .nil))
  -- the second statement
  refine ⟨.ref p, vi, ⟨_, _, rfl, rp.dp (reprD_lay hs), hs, .str k, vj, ?_⟩⟩
  refine ⟨rfl, false, ?_, ?_⟩
  · rw [he]; simp
  refine iteF ?_
  obtain ⟨R5, x5⟩ := R4.mutE (D := a) (o := .lst (us ++ [.int 9])) (by simp)
  have q0 : ∀ (H : Hp), H p = some (.lst [V.ref a, V.ref b]) → ∀ (P : V → Prop), P (.ref a) → (∃ q xs i v, V.ref p = .ref q ∧ V.int 0 = .int i ∧ SqL X.K H q xs ∧ atI xs i = some v ∧ P v) := fun H h P hP => ⟨p, _, 0, .ref a, rfl, rfl, SqL.of h, rfl, hP⟩
  refine ⟨.ref p, vi, p, _, 0, .ref a, rfl, rfl, SqL.of upd_same, rfl, .inl ⟨rfl, _, SqL.of pa⟩, a, us, .int 9, rfl, rfl, pa, by rw [ra.length]; exact hzx, ?_⟩
  have p5 : (upd (upd H1 p (.lst [.ref a, .ref b])) a (.lst (us ++ [.int 9]))) p = some (.lst [.ref a, .ref b]) := by rw [upd_ne ndp.1]; exact upd_same
  have pb5 : (upd (upd H1 p (.lst [.ref a, .ref b])) a (.lst (us ++ [.int 9]))) b = some (.lst ws) := by rw [upd_ne (Ne.symm ndp.2.2)]; exact pb
  obtain ⟨R6, x6⟩ := R5.mutE (D := b) (o := .lst ws.reverse) (by simp)
  refine ⟨.ref p, vi, p, _, 1, .ref b, rfl, rfl, SqL.of p5, rfl, .inl ⟨rfl, _, SqL.of pb5⟩, b, ws, rfl, rfl, pb5, ?_⟩
  have p6 : (upd (upd (upd H1 p (.lst [.ref a, .ref b])) a (.lst (us ++ [.int 9]))) b (.lst ws.reverse)) p = some (.lst [.ref a, .ref b]) := by rw [upd_ne ndp.2.1]; exact p5
  obtain ⟨R7, x7⟩ := R6.mutE (D := b) (o := .lst (ws.reverse ++ [.int (-1)])) (by simp)
  refine ⟨.ref p, vi, p, _, 1, .ref b, rfl, rfl, SqL.of p6, rfl, .inl ⟨rfl, _, SqL.of upd_same⟩, 1, rfl, b, _, .int (-1), rfl, rfl, upd_same, by rw [List.length_reverse, rb.length]; exact hzy, ?_⟩
  exact q _ HP1 _ as2 R7.nots (((((x1.trans x4).trans x5).trans x6).trans x7).cut)
end
end L3

/-! L3R: a comprehension over a list that its slot goes on holding. -/
namespace L3
open PySem L2
def dLcO (vs : List Nat) (l j : Nat) (tt : DT) (te : DE) : DE := fun ex env Q => ∃ xs, env[l]? = some (some (.own xs)) ∧ (xs.length ≤ sizeLine ∧ j < env.length) ∧ ∃ Wd : Nat → List PyData → En → Prop, Wd 0 [] (wipeE env vs) ∧
  (∀ (i : Nat) acc n, i < xs.length → Wd i acc n → n[l]? = some (some (.own xs)) ∧ tt exF (n.set j (some (.sh (xs.getD i .none)))) fun b n2 => if b = true then te exF n2 fun v n3 => ∃ d n4, share v n3 = some (d, n4) ∧ Wd (i + 1) (acc ++ [d]) (wipeE n4 vs) else Wd (i + 1) acc (wipeE n2 vs)) ∧
  ∀ acc n, Wd xs.length acc n → n[l]? = some (some (.own xs)) ∧ Q (.tmp (.own acc)) n
section
variable {X : Cx} {C : Ct} {W : WX} {elt tg iter : Expr} {ifs : List Expr} {scope : Scope} {own : List (Str × Nat)} {pos : Pos} {js : List Nat} {g : TG} {ti : DI} {tt : DT} {te : DE}
theorem mono_lcO {vs : List Nat} {l j : Nat} : MonoE (dLcO vs l j tt te) := fun ex ex' env Q Q' hx hq ⟨xs, h1, h2, Wd, h3, h4, h5⟩ => ⟨xs, h1, h2, Wd, h3, h4, fun acc n w => ⟨(h5 acc n w).1, hq _ _ (h5 acc n w).2⟩⟩
theorem lift_lcO {K : PySem.W.Frag} {l j : Nat} (vs : List Nat) (mt : MonoT tt) (me : MonoE te) (hj : j ∈ vs) (hl : l ∉ vs) (hio : ∀ v ∈ vs, v ∉ C.io)
    {σ : L2.St} {H1 : Hp} {Q : VK} (h : lift K C W (dLcO vs l j tt te) σ H1 Q) : tLc (iList K (tVar l)) (gName j) (liftT K C W0 tt) (lift K C W0 te) vs σ H1 Q := by
  obtain ⟨HP1, n1, as1, R1, xs, e1, ⟨hc, hl0⟩, Wd, w0, turn, done⟩ := h
  obtain ⟨a, vs0, sl, ha0, ra0, _⟩ := R1.mut e1
  refine ⟨.ref a, sl, a, rfl, ⟨_, SqL.of ha0⟩, fun D hD => ?_⟩
  have x1 : Stp HP1 H1 as1 HP1 H1 as1 := Stp.refl
  have at_ : ∀ {σ' : L2.St} {HP' H' : Hp} {n' : En} {as' ts' : List Addr}, Rel K C HP' σ' H' n' as' ts' → σ'[l]? = σ[l]? → n'[l]? = some (some (.own xs)) → ∃ ws, H' a = some (.lst ws) ∧ RpAll HP' ws xs := fun r es en => by
    obtain ⟨b, ws, f1, f2, f3, _⟩ := r.mut en
    rw [es, sl] at f1
    cases f1
    exact ⟨ws, f2, f3⟩
  obtain ⟨as1w, R1w, m1⟩ := R1.blk (σ := σ) (vs := vs) rfl (fun _ _ => rfl) hio
  have R1d := R1w.newT (o := .lst []) hD
  refine ⟨fun i m H => m = xs.length - i ∧ i ≤ xs.length ∧ ∃ HP' n' as' acc vacc, Rel K C HP' (wipe σ vs) H n' as' [D] ∧ H D = some (.lst vacc) ∧ RpAll HP' vacc acc ∧ acc.length ≤ i ∧ Stp HP1 H1 as1 HP' H (as' ++ [D]) ∧ (∀ v ∈ vs, ∀ s, n'[v]? ≠ some (some s)) ∧ Wd i acc n',
    ⟨xs.length, by simp, Nat.zero_le _, HP1, _, as1w, [], [], R1d, upd_same, .nil, Nat.le_refl _, Stp.newT hD fun a ha => ?_, fun v hv s => wipeE_no hv, w0⟩, ?_⟩
  · rcases List.mem_append.mp ha with z | z
    · exact .inl (m1 a z)
    · exact .inr (by simpa using z)
  rintro i m H' ⟨rfl, hi, HP', n', as', acc, vacc, R', hD', ra, la, x', wn, wd⟩
  by_cases hlt : i < xs.length
  · obtain ⟨tn, turn'⟩ := turn i acc n' hlt wd
    have hd' : xs[i]? = some xs[i] := List.getElem?_eq_getElem hlt
    have hgD : xs.getD i .none = xs[i] := by simp [List.getD_eq_getElem?_getD, hd']
    obtain ⟨ws, wa, wr⟩ := at_ R' (wipe_out hl) tn
    obtain ⟨wv, wi1, wi2⟩ := wr.get hd'
    refine .inr ⟨⟨ws, wv, SqL.of wa, wi1⟩, fun H'' => ∃ HP' n' as' acc vacc, Rel K C HP' (wipe σ vs) H'' n' as' [D] ∧ H'' D = some (.lst vacc) ∧ RpAll HP' vacc acc ∧ acc.length ≤ i + 1 ∧ Stp HP1 H1 as1 HP' H'' (as' ++ [D]) ∧ (∀ v ∈ vs, ∀ s, n'[v]? ≠ some (some s)) ∧ Wd (i + 1) acc n',
      fun H'' p => ⟨xs.length - (i + 1), by omega, rfl, hlt, p⟩, fun x H'' y => ?_⟩
    have len' : n'.length = n1.length := by
      have e1 := R'.rep.len
      have e2 := R1.rep.len
      rw [wipe_length] at e1
      omega
    obtain ⟨rfl, hy⟩ := y
    have ev : x = wv := Option.some.inj ((hy ws (SqL.of wa)).symm.trans wi1)
    subst ev
    have R0 : Rel K C HP' (wipe σ vs) H'' n' as' ([] ++ []) := R'.nots
    obtain ⟨as2, R2, m2⟩ := R0.store (s := .sh xs[i]) (v := x) (t := []) (i := j) ⟨wi2, rfl⟩ (by rw [len']; exact hl0) (.inl (hio j hj))
    rw [← hgD] at R2
    have x2 : Stp HP' H'' as' HP' H'' as2 := Stp.refl.less fun c hc => by simpa using m2 c hc
    have l2 : ((wipe σ vs).set j (some x)).length = (wipe σ vs).length := by simp
    have k2 : ∀ k : Nat, k ∉ [j] → ((wipe σ vs).set j (some x))[k]? = (wipe σ vs)[k]? := fun k hk => List.getElem?_set_ne (fun z => hk (by simp [z]))
    generalize eσ : (wipe σ vs).set j (some x) = σ2 at R2 l2 k2
    show (fun σ2 H2 => wipe σ2 vs = wipe σ vs ∧ _) ((wipe σ vs).set j (some x)) H''
    rw [eσ]
    have out : ∀ k : Nat, k ∉ vs → σ2[k]? = σ[k]? := fun k hk => by rw [k2 k fun z => hk (by simp at z; rw [z]; exact hj), wipe_out hk]
    have ls : σ2.length = σ.length := by rw [l2, wipe_length]
    obtain ⟨R2d, s2, x2d⟩ := R'.pend (σ' := wipe σ vs) (by rw [List.append_nil]; exact x2) R2
    refine ⟨wipe_eq ls out, HP', n'.set j (some (.sh (xs.getD i .none))), as2, R2, mt _ _ _ _ _ (fun _ _ z => False.elim z) (fun b n2 q => ?_) turn'⟩
    intro HP3 H3 as3 R3 x3
    obtain ⟨R3d, s3, x3d⟩ := R2d.pend (by rw [List.append_nil]; exact x3) R3
    have hD3 : H3 D = some (.lst vacc) := by rw [s3 D (by simp), s2 D (by simp)]; exact hD'
    have x13 := (x'.trans x2d).trans x3d
    cases b with
    | false =>
      refine iteF ?_
      obtain ⟨as4, R4, m4⟩ := R3d.blk (σ := σ) (vs := vs) ls out hio
      refine ⟨HP3, _, as4, acc, vacc, by simpa using R4, hD3, ra.mono (x2.ex.trans x3.ex), by omega, x13.less fun a ha => ?_, fun v hv s => wipeE_no hv, q⟩
      rcases List.mem_append.mp ha with z | z
      · exact List.mem_append_left _ (m4 a z)
      · exact List.mem_append_right _ (by simpa using z)
    | true =>
      refine iteT ⟨HP3, n2, as3, R3, me _ _ _ _ _ (fun _ _ z => False.elim z) (fun val n3 q => ?_) q⟩
      intro w HP4 H4 as4 ts4 R4 x4 V4
      obtain ⟨d, n4, e4, q⟩ := q
      obtain ⟨R4d, s4, x4d⟩ := R3d.pend x4 R4
      have hD4 : H4 D = some (.lst vacc) := by rw [s4 D (by simp)]; exact hD3
      have R4p : Rel K C HP4 σ2 H4 n3 as4 (ts4 ++ [D]) := R4d.perm (by simpa using (List.perm_append_comm (l₁ := [D]) (l₂ := ts4)))
      obtain ⟨HP5, as5, R5, g5, x5⟩ := R4p.share V4 e4
      obtain ⟨as6, R6, m6⟩ := R5.blk (σ := σ) (vs := vs) ls out hio
      obtain ⟨R7, x7⟩ := R6.mutT (o := .lst (vacc ++ [w]))
      have ra5 : RpAll HP5 vacc acc := ra.mono (((x2.ex.trans x3.ex).trans x4.ex).trans x5.ex)
      have x15 : Stp HP1 H1 as1 HP5 H4 (as6 ++ [D]) := ((x13.trans x4d).trans (x5.from fun a ha => by simp at ha ⊢; rcases ha with z | z | z <;> simp [z])).less fun a ha => by
        rcases List.mem_append.mp ha with z | z
        · exact List.mem_append_left _ (m6 a z)
        · exact List.mem_append_right _ z
      exact ⟨vacc, hD4, by rw [ra5.length]; omega, HP5, _, as6, acc ++ [d], vacc ++ [w], R7, upd_same, ra5.append (.cons g5 .nil), by simp; omega, x15.trans x7, fun v hv s => wipeE_no hv, q⟩
  · have e : i = xs.length := by omega
    subst e
    obtain ⟨dn, done'⟩ := done acc n' wd
    obtain ⟨ws, wa, wr⟩ := at_ R' (wipe_out hl) dn
    refine .inl ⟨⟨ws, SqL.of wa, by rw [wr.length]; exact Nat.le_refl _⟩, ?_⟩
    have Rf : Rel K C HP' σ H' n' as' [D] := R'.cong (wipe_length σ vs) (fun k s e => wipe_out fun z => wn k z s e) fun k hk => wipe_out fun z => hio k z hk
    exact done' (.ref D) HP' H' as' [D] Rf (x1.trans x') ⟨D, vacc, rfl, rfl, hD', ra⟩
theorem do_lcO {x : Str} {px ptg : Pos} {y : Str} (hc : X.calm = true) (hN : X.N.Nodup) (own : List (Str × Nat)) (l j : Nat) (ok : BlkOk X.N X.env.scope scope own)
    (hg : ∀ (s : Shared) (H : Hp) (Cc : Addr) (cl : List (Str × Addr)) (fp : List Addr), PG (X.blk s H scope (compEnvC scope cl Cc X.env) fp) (.Name y ptg) (gName j)) (ht : ∀ (s : Shared) (H : Hp) (Cc : Addr) (cl : List (Str × Addr)) (fp : List Addr), DPTs (X.blk s H scope (compEnvC scope cl Cc X.env) fp) C ifs tt)
    (he : ∀ (s : Shared) (H : Hp) (Cc : Addr) (cl : List (Str × Addr)) (fp : List Addr), DP (X.blk s H scope (compEnvC scope cl Cc X.env) fp) C W0 elt te) (hx : X.N[l]? = some x := by rfl) (hv : Vis X.env.scope x := by first | exact Or.inl rfl | exact Or.inr (Or.inl rfl) | exact Or.inr (Or.inr rfl)) (hd : (x == ("__debug__" : Str)) = false := by decide)
    (hcd : (x == ("__classdict__" : Str)) = false := by decide) (hj : j ∈ own.map (·.2) := by exact of_decide_eq_true rfl) (hl : l ∉ own.map (·.2) := by exact of_decide_eq_true rfl) (hio : ∀ v ∈ own.map (·.2), v ∉ C.io := by exact of_decide_eq_true rfl) (hs : ∀ z, foldedSetIterable (.Name x px) X.env z = pure z := by intro _; rfl) :
    DP X C W (.ListComp elt [⟨.Name y ptg, .Name x px, ifs, 0⟩] scope pos) (dLcO (own.map (·.2)) l j tt te) :=
  ⟨(pe_lc (tt := liftT X.K C W0 tt) (te := lift X.K C W0 te) hc hN (pi_list (pe_var hx hv hd hcd)) ok hg (fun s H Cc cl fp => (ht s H Cc cl fp).run) (fun s H Cc cl fp => (he s H Cc cl fp).run) hs).imp fun σ H Q h => lift_lcO _ (ht X.s_0 X.H_0 0 [] []).mono (he X.s_0 X.H_0 0 [] []).mono hj hl hio h, mono_lcO⟩
end
end L3

/-! D66a: promises over data, by the readings. -/
namespace T
open PySem L2 L3
abbrev lsI (xs : List Int) : PyData := .list (xs.map PyData.int)
theorem callD_iff {ms : List Md} {vs : List Vl} {n : En} {k : List (Option (Nat × Sl)) → List Sl → En → Prop} : callD ms vs n k ↔ (match lendAll ms vs n with
    | some p => (match conv ms vs p.1 p.2 with
      | some q => k p.1 q.1 q.2
      | none => False)
    | none => False) := by
  unfold callD
  cases h : lendAll ms vs n with
  | none => simp
  | some p =>
    obtain ⟨l, n1⟩ := p
    cases h2 : conv ms vs l n1 with
    | none => simp [h2]
    | some q =>
      obtain ⟨ss, n2⟩ := q
      simp only
      rw [h2]
      exact ⟨fun ⟨l', n', ss', n2', e1, e2, e3⟩ => (by cases e1; rw [h2] at e2; cases e2; exact e3), fun e => ⟨l, n1, ss, n2, rfl, h2, e⟩⟩
theorem some_pair {α β : Type} {a : α} {b : β} {P : α → β → Prop} : (∃ x y, some (a, b) = some (x, y) ∧ P x y) ↔ P a b := ⟨fun ⟨x, y, e, h⟩ => (by cases e; exact h), fun h => ⟨a, b, rfl, h⟩⟩
theorem MonoSp.mk1 {p : List Sl → Sl → List (Option Sl) → Prop} : MonoSp fun ss Q _ => ∃ r o, p ss r o ∧ Q r o := fun ss Q Q' E E' hq he ⟨r, o, h1, h2⟩ => ⟨r, o, h1, hq _ _ h2⟩
def ms_is_integer : List Md := [.ro, .ro, .ro]
def sp_is_integer : DSp := fun ss Q _ => ∃ v lo hi : Int, ss = [.sh (.int v), .sh (.int lo), .sh (.int hi)] ∧ Q (.sh (.bool (decide (lo ≤ v) && decide (v ≤ hi)))) []
theorem mono_is_integer : MonoSp sp_is_integer := fun ss Q Q' E E' hq he ⟨v, lo, hi, h1, h2⟩ => ⟨v, lo, hi, h1, hq _ _ h2⟩
theorem len_is_integer : ∀ ss Q E, sp_is_integer ss Q E → ss.length = 3 := fun ss Q E ⟨v, lo, hi, h1, h2⟩ => by rw [h1]; rfl
def t_is_integer : DS := (dRet (vAnd (dIsi (dVar 0) "int") (vAnd (vNot (dIsi (dVar 0) "bool")) (dChain pLe pLe (dVar 1) (dVar 0) (dVar 2)))))
theorem pure_is_integer : ∀ ss Q E, sp_is_integer ss Q E → t_is_integer (excK [] E) (ss.map some ++ List.replicate (3 - 3) none) ⟨fun n => retK [] Q (.sh .none) n, retK [] Q, fun _ => False, fun _ => False⟩ := by
  rintro ss Q E ⟨v, lo, hi, rfl, hq⟩
  simp [t_is_integer, dSeq, dNext, dIfS, dRet, dRetN, dSet, asgD, dExpr, dSto, dAug, dUnp, dPar, stA, dBreak, dCont, dAll, dDead, vAnd, vOr, vNot, dAnd, dOr, dNot, tst, dIf, dIsi, kIsi, dVar, dC, d1, d2, dN, daCons, daNil, dLst, dTup, dIx, kIx, dSl, kSl, doPart, doNo, dChain, pLt, pLe, dAdd, dSub, dMul, dMod, dFdiv, dPow, dLt, dLe, dGt, dGe, dEq, dNe, dIn, dNin, dIs, dIsn, kAdd, kInt, kMul, kEq, kIn, kIs, kNeg, kLen, lenOf, kF1, kF2, fMax2, fMin2, fInt, fStr, fSum, fAll, fMax, fMin, kLst, kTup, shareAll, share, ixOf, slotOf, dat, Sl.dat, dTx, kSplit, kJoin, dMut, kApp, kPop, kPopAt, kExt, kRev, kClr, dCall, callD_iff, some_pair, and_assoc, lendAll, conv, roSl, putBack, rng1, rng2, walkL, dYes, wipeE, isiD, tyD, retD, retK, outSl, outsOf, outOk, excK, exF, L3.scal, perm, permS, ch, chS, slS, stD, dReprL, dats, RB]
  split <;> rename_i h
  · simpa [h] using hq
  · simpa [h] using hq
/-! comprehensions whose turns leave the slots as they are -/
theorem lc_inv {vs : List Nat} {tt : DT} {te : DE} {n0 : En} {cnt : Nat} {st : Nat → En → En} {Q : List PyData → En → Prop} (F : Nat → List PyData) (h0 : F 0 = [])
    (hs : ∀ i, i < cnt → tt exF (st i n0) fun b n2 => if b = true then te exF n2 fun v n3 => ∃ d n4, share v n3 = some (d, n4) ∧ (wipeE n4 vs = n0 ∧ F i ++ [d] = F (i + 1)) else (wipeE n2 vs = n0 ∧ F i = F (i + 1)))
    (hQ : Q (F cnt) n0) : ∃ Wd : Nat → List PyData → En → Prop, Wd 0 [] n0 ∧
      (∀ (i : Nat) acc n, i < cnt → Wd i acc n → tt exF (st i n) fun b n2 => if b = true then te exF n2 fun v n3 => ∃ d n4, share v n3 = some (d, n4) ∧ Wd (i + 1) (acc ++ [d]) (wipeE n4 vs) else Wd (i + 1) acc (wipeE n2 vs)) ∧ ∀ acc n, Wd cnt acc n → Q acc n := by
  refine ⟨fun i acc n => n = n0 ∧ acc = F i, ⟨rfl, h0.symm⟩, ?_, ?_⟩
  · rintro i acc n hi ⟨rfl, rfl⟩
    exact hs i hi
  · rintro acc n ⟨rfl, rfl⟩
    exact hQ
theorem mapF {f : Nat → PyData} (i : Nat) : (List.range i).map f ++ [f i] = (List.range (i + 1)).map f := by rw [List.range_succ, List.map_append]; rfl
theorem fAll_true {α : Type} (l : List α) : fAll (.list (l.map fun _ => PyData.bool true)) = some (.bool true) := by
  have : l.map (fun _ => PyData.bool true) = (l.map fun _ => true).map PyData.bool := by simp
  rw [this]
  show (blsD ((l.map fun _ => true).map PyData.bool)).map (fun ns => PyData.bool (ns.all id)) = _
  rw [blsD_map]
  simp

theorem all_tr {α : Type} : ∀ l : List α, (l.all fun _ => true) = true
  | [] => rfl
  | _ :: l => by rw [List.all_cons, all_tr l]; rfl
theorem bls_true {α : Type} (l : List α) : blsD (l.map fun _ => PyData.bool true) = some (l.map fun _ => true) := by
  have : l.map (fun _ => PyData.bool true) = (l.map fun _ => true).map PyData.bool := by simp
  rw [this, blsD_map]
/-! ### a log -/
structure Form (xs : List Int) : Prop where
  pos : 1 ≤ xs.length
  most : xs.length ≤ 150
  ent : ∀ (i : Nat) x, xs[i]? = some x → 0 ≤ x ∧ x ≤ max 0 ((i : Int) - 1)
structure IsLog (xs : List Int) : Prop extends Form xs where
  cross : ∀ (i j : Nat) x y, xs[i]? = some x → xs[j]? = some y → i < j → ¬ (x < y ∧ y < i)
theorem getD_map {xs : List Int} {i : Nat} {x : Int} (h : xs[i]? = some x) : (xs.map PyData.int).getD i .none = .int x := by
  simp [List.getD_eq_getElem?_getD, h]
def ms_have_form : List Md := [.ro]
def sp_have_form : DSp := fun ss Q _ => ∃ xs, ss = [.bor (lsI xs)] ∧ Form xs ∧ Q (.sh (.bool true)) []
theorem mono_have_form : MonoSp sp_have_form := fun ss Q Q' E E' hq he ⟨xs, h1, h2, h3⟩ => ⟨xs, h1, h2, hq _ _ h3⟩
theorem len_have_form : ∀ ss Q E, sp_have_form ss Q E → ss.length = 1 := fun ss Q E ⟨xs, h1, h2⟩ => by rw [h1]; rfl
def t_have_form : DS := (dSeq (dIfS (dOr (dNot (tst (dIsi (dVar 0) "list"))) (dNot (tst (dChain pLe pLe (dC (.int 1)) (dN (daCons (dVar 0) daNil) kLen) (dC (.int 150)))))) (dRet (dC (.bool false))) dNext) (dRet (dN (daCons (dLc [1, 2] [1, 2] (iEnm (daCons (dVar 0) daNil) 1 2) dYes (dCall ms_is_integer [] sp_is_integer (daCons (dVar 2) (daCons (dC (.int 0)) (daCons (dN (daCons (dC (.int 0)) (daCons (dSub (dVar 1) (dC (.int 1))) daNil)) (kF2 fMax2)) daNil))))) daNil) (kF1 fAll))))
theorem pure_have_form : ∀ ss Q E, sp_have_form ss Q E → t_have_form (excK [] E) (ss.map some ++ List.replicate (3 - 1) none) ⟨fun n => retK [] Q (.sh .none) n, retK [] Q, fun _ => False, fun _ => False⟩ := by
  rintro ss Q E ⟨xs, rfl, hf, hq⟩
  have h1 := hf.pos
  have h2 := hf.most
  have h3 : (1 : Int) ≤ (xs.length : Int) := by omega
  have h4 : (xs.length : Int) ≤ 150 := by omega
  simp [t_have_form, dSeq, dNext, dIfS, dRet, dRetN, dSet, asgD, dExpr, dSto, dAug, dUnp, dPar, stA, dBreak, dCont, dAll, dDead, vAnd, vOr, vNot, dAnd, dOr, dNot, tst, dIf, dIsi, kIsi, dVar, dC, d1, d2, dN, daCons, daNil, dLst, dTup, dIx, kIx, dSl, kSl, doPart, doNo, dChain, pLt, pLe, dAdd, dSub, dMul, dMod, dFdiv, dPow, dLt, dLe, dGt, dGe, dEq, dNe, dIn, dNin, dIs, dIsn, kAdd, kInt, kMul, kEq, kIn, kIs, kNeg, kLen, lenOf, kF1, kF2, fMax2, fMin2, fInt, fStr, fSum, fAll, fMax, fMin, kLst, kTup, shareAll, share, ixOf, slotOf, dat, Sl.dat, dTx, kSplit, kJoin, dMut, kApp, kPop, kPopAt, kExt, kRev, kClr, dCall, callD_iff, some_pair, and_assoc, lendAll, conv, roSl, putBack, rng1, rng2, walkL, dYes, wipeE, isiD, tyD, retD, retK, outSl, outsOf, outOk, excK, exF, L3.scal, perm, permS, ch, chS, slS, stD, dReprL, dats, RB, h3, h4]
  refine ⟨_, rfl, _, _, _, _, rfl, rfl, ⟨?_, by simp⟩, lc_inv (fun i => (List.range i).map fun _ => PyData.bool true) rfl (fun i hi => ?_) ?_⟩
  · simp [sizeLine]; omega
  · have hi' : i < xs.length := by simpa using hi
    have hx : xs[i]? = some xs[i] := List.getElem?_eq_getElem hi'
    obtain ⟨a1, a2⟩ := hf.ent i _ hx
    have a3 : xs[i] ≤ if 1 < (i : Int) then (i : Int) - 1 else 0 := by split <;> omega
    simp [dSeq, dNext, dIfS, dRet, dRetN, dSet, asgD, dExpr, dSto, dAug, dUnp, dPar, stA, dBreak, dCont, dAll, dDead, vAnd, vOr, vNot, dAnd, dOr, dNot, tst, dIf, dIsi, kIsi, dVar, dC, d1, d2, dN, daCons, daNil, dLst, dTup, dIx, kIx, dSl, kSl, doPart, doNo, dChain, pLt, pLe, dAdd, dSub, dMul, dMod, dFdiv, dPow, dLt, dLe, dGt, dGe, dEq, dNe, dIn, dNin, dIs, dIsn, kAdd, kInt, kMul, kEq, kIn, kIs, kNeg, kLen, lenOf, kF1, kF2, fMax2, fMin2, fInt, fStr, fSum, fAll, fMax, fMin, kLst, kTup, shareAll, share, ixOf, slotOf, dat, Sl.dat, dTx, kSplit, kJoin, dMut, kApp, kPop, kPopAt, kExt, kRev, kClr, dCall, callD_iff, some_pair, and_assoc, lendAll, conv, roSl, putBack, rng1, rng2, walkL, dYes, wipeE, isiD, tyD, retD, retK, outSl, outsOf, outOk, excK, exF, L3.scal, perm, permS, ch, chS, slS, stD, dReprL, dats, RB, hx, ms_is_integer, sp_is_integer, a1, a3, List.range_succ]
  · simp [dSeq, dNext, dIfS, dRet, dRetN, dSet, asgD, dExpr, dSto, dAug, dUnp, dPar, stA, dBreak, dCont, dAll, dDead, vAnd, vOr, vNot, dAnd, dOr, dNot, tst, dIf, dIsi, kIsi, dVar, dC, d1, d2, dN, daCons, daNil, dLst, dTup, dIx, kIx, dSl, kSl, doPart, doNo, dChain, pLt, pLe, dAdd, dSub, dMul, dMod, dFdiv, dPow, dLt, dLe, dGt, dGe, dEq, dNe, dIn, dNin, dIs, dIsn, kAdd, kInt, kMul, kEq, kIn, kIs, kNeg, kLen, lenOf, kF1, kF2, fMax2, fMin2, fInt, fStr, fSum, fAll, fMax, fMin, kLst, kTup, shareAll, share, ixOf, slotOf, dat, Sl.dat, dTx, kSplit, kJoin, dMut, kApp, kPop, kPopAt, kExt, kRev, kClr, dCall, callD_iff, some_pair, and_assoc, lendAll, conv, roSl, putBack, rng1, rng2, walkL, dYes, wipeE, isiD, tyD, retD, retK, outSl, outsOf, outOk, excK, exF, L3.scal, perm, permS, ch, chS, slS, stD, dReprL, dats, RB, bls_true, all_tr, hq]

/-! ### equality of data -/
theorem lay_ints : ∀ xs : List Int, PyData.canLayAll0 (xs.map PyData.int) = true
  | [] => rfl
  | x :: xs => by rw [List.map_cons]; unfold PyData.canLayAll0; rw [lay_ints xs]; rfl
theorem depthAll_ints : ∀ xs : List Int, PyData.depthAll (xs.map PyData.int) = 0
  | [] => by simp [PyData.depthAll]
  | x :: xs => by rw [List.map_cons]; simp [PyData.depthAll, depthAll_ints xs, PyData.depth]
theorem shaped_ints (xs : List Int) : SeqAt.shaped (lsI xs) = true := by
  simp [SeqAt.shaped, PyData.canLay0, lay_ints, PyData.depth, depthAll_ints]
theorem eqv_ints : ∀ xs ys : List Int, PyData.eqvAll (xs.map PyData.int) (ys.map PyData.int) = decide (xs = ys)
  | [], [] => by simp [PyData.eqvAll]
  | [], _ :: _ => by simp [PyData.eqvAll]
  | _ :: _, [] => by simp [PyData.eqvAll]
  | x :: xs, y :: ys => by
    rw [Bool.eq_iff_iff]
    simp [PyData.eqvAll, PyData.eqv, eqv_ints xs ys]
theorem eqD_ints (xs ys : List Int) : eqD (lsI xs) (lsI ys) = some (decide (xs = ys)) := by
  unfold eqD
  simp [shaped_ints, PyData.eqv, eqv_ints]
theorem eqD_nil (xs : List Int) : eqD (lsI xs) (.list []) = some (decide (xs = [])) := eqD_ints xs []
theorem atI_at {α : Type} {xs : List α} {k : Int} {x : α} (h0 : 0 ≤ k) (h : xs[k.toNat]? = some x) : atI xs k = some x := by
  have hl := (List.getElem?_eq_some_iff.mp h).1
  unfold atI ixN
  rw [if_pos h0, if_pos (by omega)]
  exact h
theorem atI_int {xs : List Int} {k : Int} {x : Int} (h0 : 0 ≤ k) (h : xs[k.toNat]? = some x) : atI (xs.map PyData.int) k = some (.int x) := atI_at h0 (by rw [List.getElem?_map, h]; rfl)

/-! ### no links cross -/
def ms_least_crossing : List Md := [.ro]
def sp_least_crossing : DSp := fun ss Q _ => ∃ xs, ss = [.bor (lsI xs)] ∧ IsLog xs ∧ Q (.sh .none) []
theorem mono_least_crossing : MonoSp sp_least_crossing := fun ss Q Q' E E' hq he ⟨xs, h1, h2, h3⟩ => ⟨xs, h1, h2, hq _ _ h3⟩
theorem len_least_crossing : ∀ ss Q E, sp_least_crossing ss Q E → ss.length = 1 := fun ss Q E ⟨xs, h1, h2⟩ => by rw [h1]; rfl
def t_least_crossing : DS := (dSeq (dFor [1, 2] (iEnm (daCons (dVar 0) daNil) 1 2) (dFor [3] (iRng rng2 (daCons (dAdd (dVar 1) (dC (.int 1))) (daCons (dN (daCons (dVar 0) daNil) kLen) daNil)) 3) (dIfS (tst (dChain pLt pLt (dVar 2) (dIx (dVar 0) (dVar 3)) (dVar 1))) (dRet (dTup (daCons (dVar 1) (daCons (dVar 3) daNil)))) dNext))) (dRet (dC .none)))
theorem pure_least_crossing : ∀ ss Q E, sp_least_crossing ss Q E → t_least_crossing (excK [] E) (ss.map some ++ List.replicate (4 - 1) none) ⟨fun n => retK [] Q (.sh .none) n, retK [] Q, fun _ => False, fun _ => False⟩ := by
  rintro ss Q E ⟨xs, rfl, hf, hq⟩
  have h2 := hf.most
  refine ⟨_, rfl, _, _, _, _, rfl, rfl, fun i n => ∃ a b c, n = [some (.bor (lsI xs)), a, b, c], ⟨_, _, _, rfl⟩, ?_, ?_⟩
  · rintro i n hi ⟨a, b, c, rfl⟩
    have hi' : i < xs.length := by simpa using hi
    have hx : xs[i]? = some xs[i] := List.getElem?_eq_getElem hi'
    refine ⟨by simp, _, rfl, _, rfl, _, rfl, _, _, rfl, ⟨by omega, by omega⟩, ⟨by first | omega | (simp; done) | (simp; omega), by first | omega | (simp; done) | (simp; omega)⟩, fun j n => ∃ c, n = [some (.bor (lsI xs)), some (.sh (.int (i : Nat))), some (.sh (.int xs[i])), c], ⟨c, by simp [hx, chS, L3.scal]⟩, ?_, ?_⟩
    · rintro j n hj ⟨c, rfl⟩
      have hj' : i + 1 + j < xs.length := by simp at hj; omega
      have hy : xs[i + 1 + j]? = some xs[i + 1 + j] := List.getElem?_eq_getElem hj'
      have hat : atI (xs.map PyData.int) ((i : Int) + 1 + (j : Int)) = some (.int xs[i + 1 + j]) := atI_int (by omega) (by rw [show ((i : Int) + 1 + (j : Int)).toNat = i + 1 + j by omega]; exact hy)
      have hc := hf.cross i (i + 1 + j) _ _ hx hy (by omega)
      refine ⟨by simp, ?_⟩
      simp [dSeq, dNext, dIfS, dRet, dRetN, dSet, asgD, dExpr, dSto, dAug, dUnp, dPar, stA, dBreak, dCont, dAll, dDead, vAnd, vOr, vNot, dAnd, dOr, dNot, tst, dIf, dIsi, kIsi, dVar, dC, d1, d2, dN, daCons, daNil, dLst, dTup, dIx, kIx, dSl, kSl, doPart, doNo, dChain, pLt, pLe, dAdd, dSub, dMul, dMod, dFdiv, dPow, dLt, dLe, dGt, dGe, dEq, dNe, dIn, dNin, dIs, dIsn, kAdd, kInt, kMul, kEq, kIn, kIs, kNeg, kLen, lenOf, kF1, kF2, fMax2, fMin2, fInt, fStr, fSum, fAll, fMax, fMin, kLst, kTup, shareAll, share, ixOf, slotOf, dat, Sl.dat, dTx, kSplit, kJoin, dMut, kApp, kPop, kPopAt, kExt, kRev, kClr, dCall, callD_iff, some_pair, and_assoc, lendAll, conv, roSl, putBack, rng1, rng2, walkL, dYes, wipeE, isiD, tyD, retD, retK, outSl, outsOf, outOk, excK, exF, L3.scal, perm, permS, ch, chS, slS, stD, dReprL, dats, RB, hat]
      by_cases h1 : xs[i] < xs[i + 1 + j]
      · have : ¬ xs[i + 1 + j] < (i : Int) := fun z => hc ⟨h1, z⟩
        simp [h1, this]
      · simp [h1]
    · rintro n ⟨c, rfl⟩
      exact ⟨_, _, _, rfl⟩
  · rintro n ⟨a, b, c, rfl⟩
    simp [dSeq, dNext, dIfS, dRet, dRetN, dSet, asgD, dExpr, dSto, dAug, dUnp, dPar, stA, dBreak, dCont, dAll, dDead, vAnd, vOr, vNot, dAnd, dOr, dNot, tst, dIf, dIsi, kIsi, dVar, dC, d1, d2, dN, daCons, daNil, dLst, dTup, dIx, kIx, dSl, kSl, doPart, doNo, dChain, pLt, pLe, dAdd, dSub, dMul, dMod, dFdiv, dPow, dLt, dLe, dGt, dGe, dEq, dNe, dIn, dNin, dIs, dIsn, kAdd, kInt, kMul, kEq, kIn, kIs, kNeg, kLen, lenOf, kF1, kF2, fMax2, fMin2, fInt, fStr, fSum, fAll, fMax, fMin, kLst, kTup, shareAll, share, ixOf, slotOf, dat, Sl.dat, dTx, kSplit, kJoin, dMut, kApp, kPop, kPopAt, kExt, kRev, kClr, dCall, callD_iff, some_pair, and_assoc, lendAll, conv, roSl, putBack, rng1, rng2, walkL, dYes, wipeE, isiD, tyD, retD, retK, outSl, outsOf, outOk, excK, exF, L3.scal, perm, permS, ch, chS, slS, stD, dReprL, dats, RB, hq]
def ms_is_log : List Md := [.ro]
def sp_is_log : DSp := fun ss Q _ => ∃ xs, ss = [.bor (lsI xs)] ∧ IsLog xs ∧ Q (.sh (.bool true)) []
theorem mono_is_log : MonoSp sp_is_log := fun ss Q Q' E E' hq he ⟨xs, h1, h2, h3⟩ => ⟨xs, h1, h2, hq _ _ h3⟩
theorem len_is_log : ∀ ss Q E, sp_is_log ss Q E → ss.length = 1 := fun ss Q E ⟨xs, h1, h2⟩ => by rw [h1]; rfl
def t_is_log : DS := (dRet (vAnd (dCall ms_have_form [] sp_have_form (daCons (dVar 0) daNil)) (dIs (dCall ms_least_crossing [] sp_least_crossing (daCons (dVar 0) daNil)) (dC .none))))
theorem pure_is_log : ∀ ss Q E, sp_is_log ss Q E → t_is_log (excK [] E) (ss.map some ++ List.replicate (1 - 1) none) ⟨fun n => retK [] Q (.sh .none) n, retK [] Q, fun _ => False, fun _ => False⟩ := by
  rintro ss Q E ⟨xs, rfl, hf, hq⟩
  simp [t_is_log, dSeq, dNext, dIfS, dRet, dRetN, dSet, asgD, dExpr, dSto, dAug, dUnp, dPar, stA, dBreak, dCont, dAll, dDead, vAnd, vOr, vNot, dAnd, dOr, dNot, tst, dIf, dIsi, kIsi, dVar, dC, d1, d2, dN, daCons, daNil, dLst, dTup, dIx, kIx, dSl, kSl, doPart, doNo, dChain, pLt, pLe, dAdd, dSub, dMul, dMod, dFdiv, dPow, dLt, dLe, dGt, dGe, dEq, dNe, dIn, dNin, dIs, dIsn, kAdd, kInt, kMul, kEq, kIn, kIs, kNeg, kLen, lenOf, kF1, kF2, fMax2, fMin2, fInt, fStr, fSum, fAll, fMax, fMin, kLst, kTup, shareAll, share, ixOf, slotOf, dat, Sl.dat, dTx, kSplit, kJoin, dMut, kApp, kPop, kPopAt, kExt, kRev, kClr, dCall, callD_iff, some_pair, and_assoc, lendAll, conv, roSl, putBack, rng1, rng2, walkL, dYes, wipeE, isiD, tyD, retD, retK, outSl, outsOf, outOk, excK, exF, L3.scal, perm, permS, ch, chS, slS, stD, dReprL, dats, RB, ms_have_form, sp_have_form, ms_least_crossing, sp_least_crossing]
  exact ⟨xs, rfl, hf.toForm, xs, rfl, hf, hq⟩
def ms_need_log : List Md := [.ro]
def sp_need_log : DSp := fun ss Q _ => ∃ xs, ss = [.bor (lsI xs)] ∧ IsLog xs ∧ Q (.sh .none) []
theorem mono_need_log : MonoSp sp_need_log := fun ss Q Q' E E' hq he ⟨xs, h1, h2, h3⟩ => ⟨xs, h1, h2, hq _ _ h3⟩
theorem len_need_log : ∀ ss Q E, sp_need_log ss Q E → ss.length = 1 := fun ss Q E ⟨xs, h1, h2⟩ => by rw [h1]; rfl
def t_need_log : DS := (dIfS (dNot (tst (dCall ms_is_log [] sp_is_log (daCons (dVar 0) daNil)))) dDead dNext)
theorem pure_need_log : ∀ ss Q E, sp_need_log ss Q E → t_need_log (excK [] E) (ss.map some ++ List.replicate (1 - 1) none) ⟨fun n => retK [] Q (.sh .none) n, retK [] Q, fun _ => False, fun _ => False⟩ := by
  rintro ss Q E ⟨xs, rfl, hf, hq⟩
  simp [t_need_log, dSeq, dNext, dIfS, dRet, dRetN, dSet, asgD, dExpr, dSto, dAug, dUnp, dPar, stA, dBreak, dCont, dAll, dDead, vAnd, vOr, vNot, dAnd, dOr, dNot, tst, dIf, dIsi, kIsi, dVar, dC, d1, d2, dN, daCons, daNil, dLst, dTup, dIx, kIx, dSl, kSl, doPart, doNo, dChain, pLt, pLe, dAdd, dSub, dMul, dMod, dFdiv, dPow, dLt, dLe, dGt, dGe, dEq, dNe, dIn, dNin, dIs, dIsn, kAdd, kInt, kMul, kEq, kIn, kIs, kNeg, kLen, lenOf, kF1, kF2, fMax2, fMin2, fInt, fStr, fSum, fAll, fMax, fMin, kLst, kTup, shareAll, share, ixOf, slotOf, dat, Sl.dat, dTx, kSplit, kJoin, dMut, kApp, kPop, kPopAt, kExt, kRev, kClr, dCall, callD_iff, some_pair, and_assoc, lendAll, conv, roSl, putBack, rng1, rng2, walkL, dYes, wipeE, isiD, tyD, retD, retK, outSl, outsOf, outOk, excK, exF, L3.scal, perm, permS, ch, chS, slS, stD, dReprL, dats, RB, ms_is_log, sp_is_log]
  exact ⟨xs, rfl, hf, hq⟩
end T

/-! D66b: numbers' texts. -/
namespace T
open PySem L2 L3
def nt (n : Int) : Str := Str.ofString (toString n)
theorem nt_tab : ((List.range 150).all fun k => decide (1 ≤ (nt (k : Int)).length) && decide ((nt (k : Int)).length ≤ 3) && ((nt (k : Int)).cps.toList.all fun c => decide (48 ≤ c) && decide (c ≤ 57)) && (!((nt (k : Int)).cps[0]? == some 48) || (nt (k : Int)).length == 1)) = true := by decide +kernel
structure NtOk (n : Int) : Prop where
  lo : 1 ≤ (nt n).length
  hi : (nt n).length ≤ 3
  dig : ∀ c ∈ (nt n).cps.toList, 48 ≤ c ∧ c ≤ 57
  zero : (nt n).cps[0]? = some 48 → (nt n).length = 1
  int : PySem.intText? (nt n) = some n
def Small (n : Int) : Prop := 0 ≤ n ∧ n < 150
theorem nt_ok {n : Int} (h : Small n) : NtOk n := by
  obtain ⟨h0, h1⟩ := h
  have hk : n.toNat ∈ List.range 150 := by simp; omega
  have e : ((n.toNat : Nat) : Int) = n := by omega
  have := List.all_eq_true.mp nt_tab _ hk
  simp only [e, Bool.and_eq_true, decide_eq_true_eq, List.all_eq_true, Bool.or_eq_true, Bool.not_eq_true', beq_iff_eq, beq_eq_false_iff_ne] at this
  obtain ⟨⟨⟨a, b⟩, c⟩, d⟩ := this
  exact ⟨a, b, c, fun z => d.elim (fun w => absurd z w) id, PySem.W.KIN.num_reads h0 (by omega)⟩

theorem dig_in {c : Nat} (h : 48 ≤ c ∧ c ≤ 57) : c ∈ ("0123456789" : Str).cps.toList := by
  have : ∀ c ∈ List.range 58, 48 ≤ c → c ∈ ("0123456789" : Str).cps.toList := by decide +kernel
  exact this c (by simp; omega) h.1
theorem chs_len (x : Str) : (chs x).length = x.length := by simp [chs, Str.length]
theorem chs_get {x : Str} {i : Nat} (h : i < x.length) : ∃ c, x.cps.toList[i]? = some c ∧ (chs x).getD i ⟨#[]⟩ = ⟨#[c]⟩ := by
  have hl : i < x.cps.toList.length := by simpa [Str.length] using h
  refine ⟨x.cps.toList[i], List.getElem?_eq_getElem hl, ?_⟩
  simp [chs, List.getD_eq_getElem?_getD, List.getElem?_eq_getElem hl]
def ms_number_in : List Md := [.ro, .ro]
def sp_number_in : DSp := fun ss Q _ => ∃ n, Small n ∧ ss = [.sh (.str (nt n)), .sh (.int 3)] ∧ Q (.sh (.int n)) []
theorem mono_number_in : MonoSp sp_number_in := fun ss Q Q' E E' hq he ⟨n, h0, h1, h2⟩ => ⟨n, h0, h1, hq _ _ h2⟩
theorem len_number_in : ∀ ss Q E, sp_number_in ss Q E → ss.length = 2 := fun ss Q E ⟨n, h0, h1, h2⟩ => by rw [h1]; rfl
def t_number_in : DS := (dSeq (dIfS (dOr (dNot (tst (dChain pLe pLe (dC (.int 1)) (dN (daCons (dVar 0) daNil) kLen) (dVar 1)))) (dNot (tst (dN (daCons (dLc [2] [2] (iSt (dVar 0) 2) dYes (dIn (dVar 2) (dC (.str "0123456789")))) daNil) (kF1 fAll))))) (dRet (dC .none)) dNext) (dRet (dIf (dAnd (tst (dEq (dIx (dVar 0) (dC (.int 0))) (dC (.str "0")))) (tst (dGt (dN (daCons (dVar 0) daNil) kLen) (dC (.int 1))))) (dC .none) (dN (daCons (dVar 0) daNil) (kF1 fInt)))))
theorem str0 : ("0" : Str) = ⟨#[48]⟩ := by decide +kernel
theorem pure_number_in : ∀ ss Q E, sp_number_in ss Q E → t_number_in (excK [] E) (ss.map some ++ List.replicate (3 - 2) none) ⟨fun n => retK [] Q (.sh .none) n, retK [] Q, fun _ => False, fun _ => False⟩ := by
  rintro ss Q E ⟨n, hn, rfl, hq⟩
  have k := nt_ok hn
  have k1 := k.lo
  have k2 := k.hi
  have h1 : (1 : Int) ≤ ((nt n).length : Int) := by omega
  have h2 : ((nt n).length : Int) ≤ 3 := by omega
  have h3 : (nt n).length ≤ sizeLine := by simp [sizeLine]; omega
  have h4 : (nt n).length ≤ 640 := by omega
  simp [t_number_in, dSeq, dNext, dIfS, dRet, dRetN, dSet, asgD, dExpr, dSto, dAug, dUnp, dPar, stA, dBreak, dCont, dAll, dDead, vAnd, vOr, vNot, dAnd, dOr, dNot, tst, dIf, dIsi, kIsi, dVar, dC, d1, d2, dN, daCons, daNil, dLst, dTup, dIx, kIx, dSl, kSl, doPart, doNo, dChain, pLt, pLe, dAdd, dSub, dMul, dMod, dFdiv, dPow, dLt, dLe, dGt, dGe, dEq, dNe, dIn, dNin, dIs, dIsn, kAdd, kInt, kMul, kEq, kIn, kIs, kNeg, kLen, lenOf, kF1, kF2, fMax2, fMin2, fInt, fStr, fSum, fAll, fMax, fMin, kLst, kTup, shareAll, share, ixOf, slotOf, dat, Sl.dat, dTx, kSplit, kJoin, dMut, kApp, kPop, kPopAt, kExt, kRev, kClr, dCall, callD_iff, some_pair, and_assoc, lendAll, conv, roSl, putBack, rng1, rng2, walkL, dYes, wipeE, isiD, tyD, retD, retK, outSl, outsOf, outOk, excK, exF, L3.scal, perm, permS, ch, chS, slS, stD, dReprL, dats, RB, h1, h2, h3]
  refine ⟨_, rfl, _, rfl, ⟨?_, by simp⟩, lc_inv (fun i => (List.range i).map fun _ => PyData.bool true) rfl (fun i hi => ?_) ?_⟩
  · rw [chs_len]; exact h3
  · rw [chs_len] at hi
    obtain ⟨c, e1, e2⟩ := chs_get hi
    have := dig_in (k.dig c (List.mem_of_getElem? e1))
    have hd : c ∈ ("0123456789" : Str).cps := by simpa using this
    have e2' : (chs (nt n))[i]?.getD ⟨#[]⟩ = ⟨#[c]⟩ := by simpa [List.getD_eq_getElem?_getD] using e2
    simp [dSeq, dNext, dIfS, dRet, dRetN, dSet, asgD, dExpr, dSto, dAug, dUnp, dPar, stA, dBreak, dCont, dAll, dDead, vAnd, vOr, vNot, dAnd, dOr, dNot, tst, dIf, dIsi, kIsi, dVar, dC, d1, d2, dN, daCons, daNil, dLst, dTup, dIx, kIx, dSl, kSl, doPart, doNo, dChain, pLt, pLe, dAdd, dSub, dMul, dMod, dFdiv, dPow, dLt, dLe, dGt, dGe, dEq, dNe, dIn, dNin, dIs, dIsn, kAdd, kInt, kMul, kEq, kIn, kIs, kNeg, kLen, lenOf, kF1, kF2, fMax2, fMin2, fInt, fStr, fSum, fAll, fMax, fMin, kLst, kTup, shareAll, share, ixOf, slotOf, dat, Sl.dat, dTx, kSplit, kJoin, dMut, kApp, kPop, kPopAt, kExt, kRev, kClr, dCall, callD_iff, some_pair, and_assoc, lendAll, conv, roSl, putBack, rng1, rng2, walkL, dYes, wipeE, isiD, tyD, retD, retK, outSl, outsOf, outOk, excK, exF, L3.scal, perm, permS, ch, chS, slS, stD, dReprL, dats, RB, e2', hd, List.range_succ]
  · obtain ⟨c, e1, e2⟩ := chs_get (x := nt n) (i := 0) (by omega)
    have hat : atI (nt n).cps.toList 0 = some c := atI_at (by omega) (by simpa using e1)
    simp [dSeq, dNext, dIfS, dRet, dRetN, dSet, asgD, dExpr, dSto, dAug, dUnp, dPar, stA, dBreak, dCont, dAll, dDead, vAnd, vOr, vNot, dAnd, dOr, dNot, tst, dIf, dIsi, kIsi, dVar, dC, d1, d2, dN, daCons, daNil, dLst, dTup, dIx, kIx, dSl, kSl, doPart, doNo, dChain, pLt, pLe, dAdd, dSub, dMul, dMod, dFdiv, dPow, dLt, dLe, dGt, dGe, dEq, dNe, dIn, dNin, dIs, dIsn, kAdd, kInt, kMul, kEq, kIn, kIs, kNeg, kLen, lenOf, kF1, kF2, fMax2, fMin2, fInt, fStr, fSum, fAll, fMax, fMin, kLst, kTup, shareAll, share, ixOf, slotOf, dat, Sl.dat, dTx, kSplit, kJoin, dMut, kApp, kPop, kPopAt, kExt, kRev, kClr, dCall, callD_iff, some_pair, and_assoc, lendAll, conv, roSl, putBack, rng1, rng2, walkL, dYes, wipeE, isiD, tyD, retD, retK, outSl, outsOf, outOk, excK, exF, L3.scal, perm, permS, ch, chS, slS, stD, dReprL, dats, RB, bls_true, all_tr, hat, h3, h4, k.int]
    by_cases hc : c = 48
    · have hz := k.zero (by rw [← hc]; simpa using e1)
      have hz' : ¬ (1 : Int) < ((nt n).length : Int) := by omega
      simp [hc, str0, hz, hq, eqD]
    · have : ¬ ((⟨#[c]⟩ : Str) = "0") := by rw [str0]; simpa using hc
      simp [eqD, this, hq]

/-! ### several numbers -/
abbrev lsS (ys : List Str) : PyData := .list (ys.map PyData.str)
theorem scal_mapI (xs : List Int) : (xs.map PyData.int).all L3.scal = true := scal_ints xs
theorem scal_mapS (xs : List Str) : (xs.map PyData.str).all L3.scal = true := scal_strs xs
theorem all_scalI (xs : List Int) : ∀ x ∈ xs, L3.scal (PyData.int x) = true := fun _ _ => rfl
def ms_numbers_in : List Md := [.ro]
def sp_numbers_in : DSp := fun ss Q _ => ∃ ns : List Int, (∀ n ∈ ns, Small n) ∧ ns.length ≤ 200 ∧ ss = [.bor (lsS (ns.map nt))] ∧ Q (.own (ns.map PyData.int)) []
theorem mono_numbers_in : MonoSp sp_numbers_in := fun ss Q Q' E E' hq he ⟨n, h0, h3, h1, h2⟩ => ⟨n, h0, h3, h1, hq _ _ h2⟩
theorem len_numbers_in : ∀ ss Q E, sp_numbers_in ss Q E → ss.length = 1 := fun ss Q E ⟨n, h0, h3, h1, h2⟩ => by rw [h1]; rfl
def t_numbers_in : DS := (dSeq (dSet 1 (dLc [2] [2] (iLst (dVar 0) 2) dYes (dCall ms_number_in [] sp_number_in (daCons (dVar 2) (daCons (dC (.int 3)) daNil))))) (dRet (dIf (tst (dIn (dC .none) (dVar 1))) (dC .none) (dVar 1))))
theorem mapGet {α : Type} {l : List α} {f : α → PyData} {i : Nat} {x : α} (h : l[i]? = some x) : ((l.take i).map f) ++ [f x] = (l.take (i + 1)).map f := by
  rw [List.take_add_one, h, List.map_append]; rfl
theorem no_none (ns : List Int) : (ns.map PyData.int).any (fun e => PyData.eqv e .none) = false := by
  induction ns with
  | nil => rfl
  | cons n ns ih => rw [List.map_cons, List.any_cons, ih]; rfl
theorem pure_numbers_in : ∀ ss Q E, sp_numbers_in ss Q E → t_numbers_in (excK [] E) (ss.map some ++ List.replicate (3 - 1) none) ⟨fun n => retK [] Q (.sh .none) n, retK [] Q, fun _ => False, fun _ => False⟩ := by
  rintro ss Q E ⟨ns, hn, hl, rfl, hq⟩
  refine ⟨_, rfl, _, _, _, rfl, ⟨?_, by simp⟩, lc_inv (fun i => (ns.take i).map PyData.int) rfl (fun i hi => ?_) ?_⟩
  · simp [sizeLine]; omega
  · have hi' : i < ns.length := by simpa using hi
    have hx : ns[i]? = some ns[i] := List.getElem?_eq_getElem hi'
    simp [dSeq, dNext, dIfS, dRet, dRetN, dSet, asgD, dExpr, dSto, dAug, dUnp, dPar, stA, dBreak, dCont, dAll, dDead, vAnd, vOr, vNot, dAnd, dOr, dNot, tst, dIf, dIsi, kIsi, dVar, dC, d1, d2, dN, daCons, daNil, dLst, dTup, dIx, kIx, dSl, kSl, doPart, doNo, dChain, pLt, pLe, dAdd, dSub, dMul, dMod, dFdiv, dPow, dLt, dLe, dGt, dGe, dEq, dNe, dIn, dNin, dIs, dIsn, kAdd, kInt, kMul, kEq, kIn, kIs, kNeg, kLen, lenOf, kF1, kF2, fMax2, fMin2, fInt, fStr, fSum, fAll, fMax, fMin, kLst, kTup, shareAll, share, ixOf, slotOf, dat, Sl.dat, dTx, kSplit, kJoin, dMut, kApp, kPop, kPopAt, kExt, kRev, kClr, dCall, callD_iff, some_pair, and_assoc, lendAll, conv, roSl, putBack, rng1, rng2, walkL, dYes, wipeE, isiD, tyD, retD, retK, outSl, outsOf, outOk, excK, exF, L3.scal, perm, permS, ch, chS, slS, stD, dReprL, dats, RB, hx, ms_number_in, sp_number_in]
    exact ⟨ns[i], hn _ (List.getElem_mem _), rfl, by simpa [List.map_take] using mapGet (f := PyData.int) hx⟩
  · have e : ns.take (List.map PyData.str (ns.map nt)).length = ns := by rw [List.length_map, List.length_map, List.take_length]
    simp only [e]
    simp [dSeq, dNext, dIfS, dRet, dRetN, dSet, asgD, dExpr, dSto, dAug, dUnp, dPar, stA, dBreak, dCont, dAll, dDead, vAnd, vOr, vNot, dAnd, dOr, dNot, tst, dIf, dIsi, kIsi, dVar, dC, d1, d2, dN, daCons, daNil, dLst, dTup, dIx, kIx, dSl, kSl, doPart, doNo, dChain, pLt, pLe, dAdd, dSub, dMul, dMod, dFdiv, dPow, dLt, dLe, dGt, dGe, dEq, dNe, dIn, dNin, dIs, dIsn, kAdd, kInt, kMul, kEq, kIn, kIs, kNeg, kLen, lenOf, kF1, kF2, fMax2, fMin2, fInt, fStr, fSum, fAll, fMax, fMin, kLst, kTup, shareAll, share, ixOf, slotOf, dat, Sl.dat, dTx, kSplit, kJoin, dMut, kApp, kPop, kPopAt, kExt, kRev, kClr, dCall, callD_iff, some_pair, and_assoc, lendAll, conv, roSl, putBack, rng1, rng2, walkL, dYes, wipeE, isiD, tyD, retD, retK, outSl, outsOf, outOk, excK, exF, L3.scal, perm, permS, ch, chS, slS, stD, dReprL, dats, RB, PyData.eqv, hq]
/-! ### texts -/
theorem cut1 {α : Type} (xs : List α) : cutL xs (some 1) none = xs.drop 1 := by
  have h1 : HT.sIx xs.length 0 (some 1) = min 1 xs.length := HT.sIx_nat _ 0 1
  unfold cutL
  rw [h1]
  show (xs.drop (min 1 xs.length)).take (xs.length - min 1 xs.length) = _
  rw [List.take_of_length_le (by rw [List.length_drop]; omega)]
  by_cases h : 1 ≤ xs.length
  · rw [Nat.min_eq_left h]
  · have : xs = [] := List.eq_nil_of_length_eq_zero (by omega)
    subst this; rfl
def join1 (sep : Str) (ns : List Int) : Str := Txt.join sep (ns.map nt)
theorem fStr_small {n : Int} (h : Small n) : fStr (.int n) = some (.str (nt n)) := by
  unfold fStr
  have : n.natAbs.log2 < 1920 := PySem.Spec.log2_small (by obtain ⟨h0, h1⟩ := h; have : n.natAbs < 2 ^ 10 := by omega
                                                           exact Nat.lt_of_lt_of_le this (Nat.pow_le_pow_right (by decide) (by decide)))
  show (if n.natAbs.log2 < 1920 then some (PyData.str (Str.ofString (toString n))) else none) = _
  rw [if_pos this]; rfl
theorem sum_small : ∀ {ns : List Int}, (∀ n ∈ ns, Small n) → (ns.map fun n => (nt n).length).sum ≤ 3 * ns.length
  | [], _ => by simp
  | n :: ns, h => by
    have := sum_small fun m hm => h m (List.mem_cons_of_mem _ hm)
    have := (nt_ok (h n (List.mem_cons_self ..))).hi
    simp; omega
def logT (xs : List Int) : Str := if 1 < xs.length then join1 " " (xs.drop 1) else "-"
def ms_log_text : List Md := [.ro]
def sp_log_text : DSp := fun ss Q _ => ∃ xs, (∀ n ∈ xs, Small n) ∧ xs.length ≤ 150 ∧ ss = [.bor (lsI xs)] ∧ Q (.sh (.str (logT xs))) []
theorem mono_log_text : MonoSp sp_log_text := fun ss Q Q' E E' hq he ⟨n, h0, h3, h1, h2⟩ => ⟨n, h0, h3, h1, hq _ _ h2⟩
theorem len_log_text : ∀ ss Q E, sp_log_text ss Q E → ss.length = 1 := fun ss Q E ⟨n, h0, h3, h1, h2⟩ => by rw [h1]; rfl
def t_log_text : DS := (dRet (dIf (tst (dGt (dN (daCons (dVar 0) daNil) kLen) (dC (.int 1)))) (dTx (dC (.str " ")) (dLc [1] [1] (iLst (dSl (dVar 0) (doPart (dC (.int 1))) doNo) 1) dYes (dN (daCons (dVar 1) daNil) (kF1 fStr))) kJoin) (dC (.str "-"))))
theorem pure_log_text : ∀ ss Q E, sp_log_text ss Q E → t_log_text (excK [] E) (ss.map some ++ List.replicate (2 - 1) none) ⟨fun n => retK [] Q (.sh .none) n, retK [] Q, fun _ => False, fun _ => False⟩ := by
  rintro ss Q E ⟨xs, hn, hl, rfl, hq⟩
  by_cases h1 : 1 < xs.length
  · have h2 : (1 : Int) < (xs.length : Int) := by omega
    have hn' : ∀ n ∈ xs.drop 1, Small n := fun n h => hn n (List.mem_of_mem_drop h)
    have hsz := sum_small hn'
    have hll : (xs.drop 1).length ≤ 150 := by rw [List.length_drop]; omega
    simp [t_log_text, dSeq, dNext, dIfS, dRet, dRetN, dSet, asgD, dExpr, dSto, dAug, dUnp, dPar, stA, dBreak, dCont, dAll, dDead, vAnd, vOr, vNot, dAnd, dOr, dNot, tst, dIf, dIsi, kIsi, dVar, dC, d1, d2, dN, daCons, daNil, dLst, dTup, dIx, kIx, dSl, kSl, doPart, doNo, dChain, pLt, pLe, dAdd, dSub, dMul, dMod, dFdiv, dPow, dLt, dLe, dGt, dGe, dEq, dNe, dIn, dNin, dIs, dIsn, kAdd, kInt, kMul, kEq, kIn, kIs, kNeg, kLen, lenOf, kF1, kF2, fMax2, fMin2, fInt, fStr, fSum, fAll, fMax, fMin, kLst, kTup, shareAll, share, ixOf, slotOf, dat, Sl.dat, dTx, kSplit, kJoin, dMut, kApp, kPop, kPopAt, kExt, kRev, kClr, dCall, callD_iff, some_pair, and_assoc, lendAll, conv, roSl, putBack, rng1, rng2, walkL, dYes, wipeE, isiD, tyD, retD, retK, outSl, outsOf, outOk, excK, exF, L3.scal, perm, permS, ch, chS, slS, stD, dReprL, dats, RB, h2]
    have ec : cutL (xs.map PyData.int) (some 1) none = (xs.drop 1).map PyData.int := by rw [cut1, List.map_drop]
    refine ⟨_, rfl, _, rfl, scal_mapI _, _, _, _, rfl, ⟨?_, by simp⟩, lc_inv (fun i => (((xs.drop 1).take i).map nt).map PyData.str) rfl (fun i hi => ?_) ?_⟩
    · rw [ec]; simp [sizeLine]; omega
    · rw [ec] at hi ⊢
      have hi' : i < (xs.drop 1).length := by simpa using hi
      have hx : (xs.drop 1)[i]? = some (xs.drop 1)[i] := List.getElem?_eq_getElem hi'
      have hf := fStr_small (hn' _ (List.getElem_mem hi'))
      rw [getD_map hx]
      unfold dYes
      refine iteT ⟨_, rfl, _, _, rfl, hf, _, _, rfl, rfl, ?_⟩
      rw [List.take_add_one, hx, List.map_append, List.map_append]; rfl
    · rw [ec]
      have e2 : ((xs.drop 1).take (List.map PyData.int (xs.drop 1)).length) = xs.drop 1 := by rw [List.length_map, List.take_length]
      have e : logT xs = join1 " " (xs.drop 1) := if_pos h1
      rw [e] at hq
      simp only [e2]
      refine ⟨(xs.drop 1).map nt, rfl, ?_, ?_⟩
      · rw [List.map_map]
        have e3 : ((" " : Str)).length = 1 := rfl
        have e4 : (((fun x : Str => x.length) ∘ nt) : Int → Nat) = fun n => (nt n).length := rfl
        rw [e4, e3, List.length_map]; omega
      · first | exact hq | exact ⟨_, rfl, rfl, hq⟩
  · have h2 : ¬ (1 : Int) < (xs.length : Int) := by omega
    have e : logT xs = "-" := if_neg h1
    rw [e] at hq
    simp [t_log_text, dSeq, dNext, dIfS, dRet, dRetN, dSet, asgD, dExpr, dSto, dAug, dUnp, dPar, stA, dBreak, dCont, dAll, dDead, vAnd, vOr, vNot, dAnd, dOr, dNot, tst, dIf, dIsi, kIsi, dVar, dC, d1, d2, dN, daCons, daNil, dLst, dTup, dIx, kIx, dSl, kSl, doPart, doNo, dChain, pLt, pLe, dAdd, dSub, dMul, dMod, dFdiv, dPow, dLt, dLe, dGt, dGe, dEq, dNe, dIn, dNin, dIs, dIsn, kAdd, kInt, kMul, kEq, kIn, kIs, kNeg, kLen, lenOf, kF1, kF2, fMax2, fMin2, fInt, fStr, fSum, fAll, fMax, fMin, kLst, kTup, shareAll, share, ixOf, slotOf, dat, Sl.dat, dTx, kSplit, kJoin, dMut, kApp, kPop, kPopAt, kExt, kRev, kClr, dCall, callD_iff, some_pair, and_assoc, lendAll, conv, roSl, putBack, rng1, rng2, walkL, dYes, wipeE, isiD, tyD, retD, retK, outSl, outsOf, outOk, excK, exF, L3.scal, perm, permS, ch, chS, slS, stD, dReprL, dats, RB, h2, hq]
end T

/-! D66c: texts read back. -/
namespace T
open PySem L2 L3
/-- one statement; what follows it stands aside -/
theorem seq_gen {t u : DS} {ex : DX} {env : En} {D : DEnds} (h : ∀ N : En → Prop, (∀ n, u ex n D → N n) → t ex env { D with nx := N }) : dSeq t u ex env D := h _ fun _ z => z
theorem join_len (sep : Str) : ∀ ys : List Str, (Str.join sep ys).length ≤ (ys.map (·.length)).sum + ys.length * sep.length
  | [] => by simp [Str.join, Str.empty, Str.length]
  | [x] => by simp [Str.join]
  | x :: y :: r => by
    have ih := join_len sep (y :: r)
    show (x ++ sep ++ Str.join sep (y :: r)).length ≤ _
    rw [strLen_append, strLen_append, List.map_cons, List.sum_cons, List.length_cons, Nat.succ_mul]
    omega
theorem join1_len {sep : Str} (h1 : sep.length = 1) {ns : List Int} (h : ∀ n ∈ ns, Small n) : (join1 sep ns).length ≤ 4 * ns.length := by
  have := join_len sep (ns.map nt)
  have h2 := sum_small h
  unfold join1
  rw [TL.join_eq]
  rw [List.map_map, List.length_map, h1] at this
  have e4 : (((fun x : Str => x.length) ∘ nt) : Int → Nat) = fun n => (nt n).length := rfl
  rw [e4] at this
  omega
theorem split1 {sep : Str} {c : Nat} (hs : TL.tl sep = [c]) (hc : c < 48) (hk : sep.cps.all (· < 256) = true) {ns : List Int} (h : ∀ n ∈ ns, Small n) (hne : ns ≠ []) : Txt.split (join1 sep ns) sep = ns.map nt := by
  refine TL.split_join hs hk (by simpa using hne) fun p hp z => ?_
  obtain ⟨n, hn, rfl⟩ := List.mem_map.mp hp
  have := (nt_ok (h n hn)).dig c z
  omega
theorem split1' {sep : Str} {c : Nat} (hs : TL.tl sep = [c]) (hc : 57 < c) (hk : sep.cps.all (· < 256) = true) {ns : List Int} (h : ∀ n ∈ ns, Small n) (hne : ns ≠ []) : Txt.split (join1 sep ns) sep = ns.map nt := by
  refine TL.split_join hs hk (by simpa using hne) fun p hp z => ?_
  obtain ⟨n, hn, rfl⟩ := List.mem_map.mp hp
  have := (nt_ok (h n hn)).dig c z
  omega
theorem tl_sp : TL.tl (" " : Str) = [32] := by decide +kernel
theorem tl_gt : TL.tl (">" : Str) = [62] := by decide +kernel
theorem tl_mi : TL.tl ("-" : Str) = [45] := by decide +kernel
/-- no joined numbers are a dash -/
theorem not_dash {ns : List Int} (h : ∀ n ∈ ns, Small n) (hne : ns ≠ []) : join1 " " ns ≠ "-" := fun e => by
  have h1 := split1 tl_sp (by decide) (by decide +kernel) h hne
  have h2 : Txt.split ("-" : Str) " " = [("-" : Str)] := by
    have := TL.split_join (y := " ") tl_sp (by decide +kernel) (parts := [("-" : Str)]) (by simp) (fun p hp => by
      have e : p = ("-" : Str) := by simpa using hp
      rw [e, tl_mi]; decide)
    exact this
  rw [e, h2] at h1
  cases ns with
  | nil => exact hne rfl
  | cons n ns =>
    have e2 : ("-" : Str) = nt n := by simp at h1; exact h1.1
    have := (nt_ok (h n (List.mem_cons_self ..))).dig 45 (by rw [← e2]; show 45 ∈ TL.tl ("-" : Str); rw [tl_mi]; simp)
    omega
theorem IsLog.head {xs : List Int} (h : IsLog xs) : ∃ ns, xs = 0 :: ns := by
  cases xs with
  | nil => have := h.pos; simp at this
  | cons x ns =>
    have := h.ent 0 x rfl
    have e : x = 0 := by omega
    exact ⟨ns, by rw [e]⟩
theorem IsLog.small {xs : List Int} (h : IsLog xs) : ∀ n ∈ xs, Small n := fun n hn => by
  obtain ⟨i, hi, e⟩ := List.mem_iff_getElem.mp hn
  have hx : xs[i]? = some n := by rw [List.getElem?_eq_getElem hi, e]
  have := h.ent i n hx
  have := h.most
  unfold Small; omega

/-! ### chains' texts -/
def ms_chain_text : List Md := [.ro]
def sp_chain_text : DSp := fun ss Q _ => ∃ xs, (∀ n ∈ xs, Small n) ∧ xs.length ≤ 200 ∧ ss = [.bor (lsI xs)] ∧ Q (.sh (.str (join1 ">" xs))) []
theorem mono_chain_text : MonoSp sp_chain_text := fun ss Q Q' E E' hq he ⟨n, h0, h3, h1, h2⟩ => ⟨n, h0, h3, h1, hq _ _ h2⟩
theorem len_chain_text : ∀ ss Q E, sp_chain_text ss Q E → ss.length = 1 := fun ss Q E ⟨n, h0, h3, h1, h2⟩ => by rw [h1]; rfl
def t_chain_text : DS := (dRet (dTx (dC (.str ">")) (dLc [1] [1] (iLst (dVar 0) 1) dYes (dN (daCons (dVar 1) daNil) (kF1 fStr))) kJoin))
theorem pure_chain_text : ∀ ss Q E, sp_chain_text ss Q E → t_chain_text (excK [] E) (ss.map some ++ List.replicate (2 - 1) none) ⟨fun n => retK [] Q (.sh .none) n, retK [] Q, fun _ => False, fun _ => False⟩ := by
  rintro ss Q E ⟨xs, hn, hl, rfl, hq⟩
  have hsz := sum_small hn
  have e2 : (xs.take (xs.map PyData.int).length) = xs := by rw [List.length_map, List.take_length]
  refine ⟨⟨_, rfl⟩, _, rfl, _, _, _, rfl, ⟨?_, by simp⟩, lc_inv (fun i => ((xs.take i).map nt).map PyData.str) rfl (fun i hi => ?_) ?_⟩
  · rw [List.length_map]; simp [sizeLine]; omega
  · have hi' : i < xs.length := by simpa using hi
    have hx : xs[i]? = some xs[i] := List.getElem?_eq_getElem hi'
    have hf := fStr_small (hn _ (List.getElem_mem hi'))
    rw [getD_map hx]
    unfold dYes
    refine iteT ⟨_, rfl, _, _, rfl, hf, _, _, rfl, rfl, ?_⟩
    rw [List.take_add_one, hx, List.map_append, List.map_append]; rfl
  · simp only [e2]
    refine ⟨">", xs.map nt, rfl, rfl, ?_, _, rfl, rfl, hq⟩
    rw [List.map_map]
    have e3 : ((">" : Str)).length = 1 := rfl
    have e4 : (((fun x : Str => x.length) ∘ nt) : Int → Nat) = fun n => (nt n).length := rfl
    rw [e4, e3, List.length_map]; omega

/-! ### show_log, read_log -/
def ms_show_log : List Md := [.ro]
def sp_show_log : DSp := fun ss Q _ => ∃ xs, ss = [.bor (lsI xs)] ∧ IsLog xs ∧ Q (.sh (.str (logT xs))) []
theorem mono_show_log : MonoSp sp_show_log := fun ss Q Q' E E' hq he ⟨xs, h1, h2, h3⟩ => ⟨xs, h1, h2, hq _ _ h3⟩
theorem len_show_log : ∀ ss Q E, sp_show_log ss Q E → ss.length = 1 := fun ss Q E ⟨xs, h1, h2⟩ => by rw [h1]; rfl
def t_show_log : DS := (dSeq (dExpr (dCall ms_need_log [] sp_need_log (daCons (dVar 0) daNil))) (dRet (dCall ms_log_text [] sp_log_text (daCons (dVar 0) daNil))))
theorem pure_show_log : ∀ ss Q E, sp_show_log ss Q E → t_show_log (excK [] E) (ss.map some ++ List.replicate (1 - 1) none) ⟨fun n => retK [] Q (.sh .none) n, retK [] Q, fun _ => False, fun _ => False⟩ := by
  rintro ss Q E ⟨xs, rfl, hf, hq⟩
  simp [t_show_log, dSeq, dNext, dIfS, dRet, dRetN, dSet, asgD, dExpr, dSto, dAug, dUnp, dPar, stA, dBreak, dCont, dAll, dDead, vAnd, vOr, vNot, dAnd, dOr, dNot, tst, dIf, dIsi, kIsi, dVar, dC, d1, d2, dN, daCons, daNil, dLst, dTup, dIx, kIx, dSl, kSl, doPart, doNo, dChain, pLt, pLe, dAdd, dSub, dMul, dMod, dFdiv, dPow, dLt, dLe, dGt, dGe, dEq, dNe, dIn, dNin, dIs, dIsn, kAdd, kInt, kMul, kEq, kIn, kIs, kNeg, kLen, lenOf, kF1, kF2, fMax2, fMin2, fInt, fStr, fSum, fAll, fMax, fMin, kLst, kTup, shareAll, share, ixOf, slotOf, dat, Sl.dat, dTx, kSplit, kJoin, dMut, kApp, kPop, kPopAt, kExt, kRev, kClr, dCall, callD_iff, some_pair, and_assoc, lendAll, conv, roSl, putBack, rng1, rng2, walkL, dYes, wipeE, isiD, tyD, retD, retK, outSl, outsOf, outOk, excK, exF, L3.scal, perm, permS, ch, chS, slS, stD, dReprL, dats, RB, ms_need_log, sp_need_log, ms_log_text, sp_log_text]
  exact ⟨xs, rfl, hf, xs, hf.small, hf.most, rfl, hq⟩
def ms_read_log : List Md := [.ro]
def sp_read_log : DSp := fun ss Q _ => ∃ xs, ss = [.sh (.str (logT xs))] ∧ IsLog xs ∧ Q (.own (xs.map PyData.int)) []
theorem mono_read_log : MonoSp sp_read_log := fun ss Q Q' E E' hq he ⟨xs, h1, h2, h3⟩ => ⟨xs, h1, h2, hq _ _ h3⟩
theorem len_read_log : ∀ ss Q E, sp_read_log ss Q E → ss.length = 1 := fun ss Q E ⟨xs, h1, h2⟩ => by rw [h1]; rfl
def t_read_log : DS := (dSeq (dIfS (tst (dEq (dVar 0) (dC (.str "-")))) (dRet (dLst (daCons (dC (.int 0)) daNil))) dNext) (dSeq (dSet 1 (dIf (tst (dIsi (dVar 0) "str")) (dCall ms_numbers_in [] sp_numbers_in (daCons (dTx (dVar 0) (dC (.str " ")) kSplit) daNil)) (dC .none))) (dSeq (dIfS (dOr (tst (dIs (dVar 1) (dC .none))) (dNot (tst (dCall ms_is_log [] sp_is_log (daCons (dAdd (dLst (daCons (dC (.int 0)) daNil)) (dVar 1)) daNil))))) dDead dNext) (dRet (dAdd (dLst (daCons (dC (.int 0)) daNil)) (dVar 1))))))
theorem pure_read_log : ∀ ss Q E, sp_read_log ss Q E → t_read_log (excK [] E) (ss.map some ++ List.replicate (2 - 1) none) ⟨fun n => retK [] Q (.sh .none) n, retK [] Q, fun _ => False, fun _ => False⟩ := by
  rintro ss Q E ⟨xs, rfl, hf, hq⟩
  obtain ⟨ns, rfl⟩ := hf.head
  have hs : ∀ n ∈ ns, Small n := fun n h => hf.small n (List.mem_cons_of_mem _ h)
  have hl : ns.length ≤ 149 := by have := hf.most; simp at this; omega
  by_cases h1 : ns = []
  · subst h1
    have e : logT [0] = "-" := rfl
    rw [e]
    exact ⟨_, rfl, _, _, true, rfl, rfl, rfl, _, rfl, iteT ⟨_, _, rfl, by decide, _, rfl, rfl, hq⟩⟩
  · have hp : 0 < ns.length := List.length_pos_iff.mpr h1
    have e : logT (0 :: ns) = join1 " " ns := if_pos (by simp; omega)
    rw [e]
    have hne : ¬ (join1 " " ns = "-") := not_dash hs h1
    have hlen := join1_len (sep := " ") rfl hs
    have hsp := split1 tl_sp (by decide) (by decide +kernel) hs h1
    have hz : (join1 " " ns).length + 2 ≤ sizeLine := by simp [sizeLine]; omega
    have hone : ((" " : Str).length == 0) = false := rfl
    have hz2 : 1 ≤ sizeLine := by decide
    have hz3 : 1 + (ns.map PyData.int).length ≤ sizeLine := by rw [List.length_map]; simp [sizeLine]; omega
    have he : eqD (.str (join1 " " ns)) (.str "-") = some false := by simp [eqD, hne]
    refine ⟨_, rfl, _, _, false, rfl, rfl, he, _, rfl, iteF ?_⟩
    refine ⟨_, rfl, _, rfl, true, by rfl, iteT ⟨_, rfl, ⟨_, rfl⟩, _, _, rfl, rfl, rfl, hz, _, _, _, _, rfl, rfl, ns, hs, by omega, ?_, of_decide_eq_true rfl, ?_⟩⟩
    · rw [hsp]; rfl
    refine ⟨_, rfl, false, rfl, iteF ⟨_, _, rfl, hz2, _, rfl, rfl, rfl, hz3, _, _, _, _, rfl, rfl, 0 :: ns, rfl, hf, true, rfl, iteF ?_⟩⟩
    exact ⟨_, _, rfl, hz2, _, rfl, rfl, rfl, hz3, _, rfl, rfl, hq⟩
end T

/-! D66d: chains. -/
namespace T
open PySem L2 L3
structure IsChain (xs ys : List Int) : Prop where
  ne : ys ≠ []
  most : ys.length ≤ 200
  ent : ∀ y ∈ ys, 0 ≤ y ∧ y < xs.length
  rel : ∀ (i : Nat) a b, ys[i]? = some a → ys[i + 1]? = some b → (b = a - 1 ∨ xs[a.toNat]? = some b) ∧ b < a
theorem IsChain.small {xs ys : List Int} (h : IsChain xs ys) (hl : xs.length ≤ 150) : ∀ n ∈ ys, Small n := fun n hn => by
  have := h.ent n hn
  unfold Small; omega
def ms_is_chain_of : List Md := [.ro, .ro]
def sp_is_chain_of : DSp := fun ss Q _ => ∃ xs ys, ss = [.bor (lsI xs), .bor (lsI ys)] ∧ xs.length ≤ 150 ∧ IsChain xs ys ∧ Q (.sh (.bool true)) []
theorem mono_is_chain_of : MonoSp sp_is_chain_of := fun ss Q Q' E E' hq he ⟨xs, ys, h1, h0, h2, h3⟩ => ⟨xs, ys, h1, h0, h2, hq _ _ h3⟩
theorem len_is_chain_of : ∀ ss Q E, sp_is_chain_of ss Q E → ss.length = 2 := fun ss Q E ⟨xs, ys, h1, h2⟩ => by rw [h1]; rfl
def t_is_chain_of : DS := (dSeq (dIfS (dOr (dNot (tst (dIsi (dVar 1) "list"))) (tst (dEq (dVar 1) (dLst daNil)))) (dRet (dC (.bool false))) dNext) (dSeq (dIfS (dNot (tst (dN (daCons (dLc [2] [2] (iLst (dVar 1) 2) dYes (dCall ms_is_integer [] sp_is_integer (daCons (dVar 2) (daCons (dC (.int 0)) (daCons (dSub (dN (daCons (dVar 0) daNil) kLen) (dC (.int 1))) daNil))))) daNil) (kF1 fAll)))) (dRet (dC (.bool false))) dNext) (dRet (dN (daCons (dLc [2, 3] [2, 3] (iZp (daCons (dVar 1) (daCons (dSl (dVar 1) (doPart (dC (.int 1))) doNo) daNil)) 2 3) dYes (vAnd (dIn (dVar 3) (dTup (daCons (dSub (dVar 2) (dC (.int 1))) (daCons (dIx (dVar 0) (dVar 2)) daNil)))) (dLt (dVar 3) (dVar 2)))) daNil) (kF1 fAll)))))
theorem trues (i : Nat) {b : Bool} (h : b = true) : ((List.range i).map fun _ => PyData.bool true) ++ [PyData.bool b] = (List.range (i + 1)).map fun _ => PyData.bool true := by
  rw [h, List.range_succ, List.map_append]; rfl
theorem fAll_range (n : Nat) : fAll (.list ((List.range n).map fun _ => PyData.bool true)) = some (.bool true) := fAll_true _
theorem pure_is_chain_of : ∀ ss Q E, sp_is_chain_of ss Q E → t_is_chain_of (excK [] E) (ss.map some ++ List.replicate (4 - 2) none) ⟨fun n => retK [] Q (.sh .none) n, retK [] Q, fun _ => False, fun _ => False⟩ := by
  rintro ss Q E ⟨xs, ys, rfl, hl, hf, hq⟩
  have hm := hf.most
  have he : eqD (lsI ys) (.list []) = some false := by rw [eqD_nil]; simp [hf.ne]
  refine ⟨_, rfl, _, rfl, true, rfl, iteF ⟨_, rfl, _, _, rfl, by decide, _, _, false, rfl, rfl, he, false, rfl, iteF ?_⟩⟩
  refine ⟨_, rfl, _, _, _, rfl, ⟨?_, of_decide_eq_true rfl⟩, lc_inv (fun i => (List.range i).map fun _ => PyData.bool true) rfl (fun i hi => ?_) ?_⟩
  · rw [List.length_map]; simp [sizeLine]; omega
  · have hi' : i < ys.length := by simpa using hi
    have hx : ys[i]? = some ys[i] := List.getElem?_eq_getElem hi'
    have hy := hf.ent _ (List.getElem_mem hi')
    rw [getD_map hx]
    unfold dYes
    refine iteT ⟨_, rfl, _, rfl, _, rfl, ⟨trivial, _, _, _, _, rfl, rfl, ys[i], 0, _, rfl, _, _, rfl, rfl, trues i ?_⟩⟩
    rw [List.length_map]
    simp; omega
  refine ⟨_, _, rfl, fAll_range _, true, rfl, iteF ?_⟩
  have ec : cutL (ys.map PyData.int) (some 1) none = (ys.drop 1).map PyData.int := by rw [cut1, List.map_drop]
  refine ⟨_, rfl, _, rfl, _, rfl, scal_mapI _, _, _, _, _, _, _, _, _, rfl, rfl, rfl, ⟨?_, of_decide_eq_true rfl⟩, lc_inv (fun i => (List.range i).map fun _ => PyData.bool true) rfl (fun i hi => ?_) ?_⟩
  · rw [List.length_map]; simp [sizeLine]; omega
  · rw [ec] at hi ⊢
    have hi' : i + 1 < ys.length := by simp at hi; omega
    have hx : ys[i]? = some ys[i] := List.getElem?_eq_getElem (by omega)
    have hx1 : ys[i + 1]? = some ys[i + 1] := List.getElem?_eq_getElem hi'
    have hx2 : (ys.drop 1)[i]? = some ys[i + 1] := by rw [List.getElem?_drop, Nat.add_comm]; exact hx1
    obtain ⟨r1, r2⟩ := hf.rel i _ _ hx hx1
    have hy := hf.ent _ (List.getElem_mem (show i < ys.length by omega))
    have ha : ys[i].toNat < xs.length := by omega
    have hat : atI (xs.map PyData.int) ys[i] = some (.int xs[ys[i].toNat]) := atI_int hy.1 (List.getElem?_eq_getElem ha)
    have hix : ∀ n : En, ixOf n (.tmp (.bor (lsI xs))) ys[i] = some (.tmp (.sh (.int xs[ys[i].toNat]))) := fun n => by
      show Option.map _ (atI (xs.map PyData.int) ys[i]) = _
      rw [hat]; rfl
    rw [getD_map hx, getD_map hx2]
    unfold dYes
    refine iteT ⟨_, rfl, _, rfl, ⟨trivial, _, rfl, _, rfl, _, _, rfl, hix _, _, _, rfl, of_decide_eq_true rfl, rfl, rfl, true, ?_, iteT ⟨_, rfl, _, rfl, trivial, _, _, rfl, rfl, trues i ?_⟩⟩⟩
    · show some (PyData.bool (false != _)) = _
      rw [List.getElem?_eq_getElem ha] at r1
      rcases r1 with z | z
      · simp [PyData.eqv, Sl.dat, z]
      · simp at z
        simp [PyData.eqv, Sl.dat, z]
    · simp [r2]
  · exact ⟨_, _, rfl, fAll_range _, _, rfl, rfl, hq⟩
def ms_need_chain : List Md := [.ro, .ro]
def sp_need_chain : DSp := fun ss Q _ => ∃ xs ys, ss = [.bor (lsI xs), .bor (lsI ys)] ∧ xs.length ≤ 150 ∧ IsChain xs ys ∧ Q (.sh .none) []
theorem mono_need_chain : MonoSp sp_need_chain := fun ss Q Q' E E' hq he ⟨xs, ys, h1, h0, h2, h3⟩ => ⟨xs, ys, h1, h0, h2, hq _ _ h3⟩
theorem len_need_chain : ∀ ss Q E, sp_need_chain ss Q E → ss.length = 2 := fun ss Q E ⟨xs, ys, h1, h2⟩ => by rw [h1]; rfl
def t_need_chain : DS := (dIfS (dNot (tst (dCall ms_is_chain_of [] sp_is_chain_of (daCons (dVar 0) (daCons (dVar 1) daNil))))) dDead dNext)
theorem pure_need_chain : ∀ ss Q E, sp_need_chain ss Q E → t_need_chain (excK [] E) (ss.map some ++ List.replicate (2 - 2) none) ⟨fun n => retK [] Q (.sh .none) n, retK [] Q, fun _ => False, fun _ => False⟩ := by
  rintro ss Q E ⟨xs, ys, rfl, hl, hf, hq⟩
  exact ⟨_, rfl, _, rfl, _, _, _, _, rfl, rfl, xs, ys, rfl, hl, hf, true, rfl, iteF ⟨_, rfl, rfl, hq⟩⟩
def ms_show_chain : List Md := [.ro, .ro]
def sp_show_chain : DSp := fun ss Q _ => ∃ xs ys, ss = [.bor (lsI xs), .bor (lsI ys)] ∧ IsLog xs ∧ IsChain xs ys ∧ Q (.sh (.str (join1 ">" ys))) []
theorem mono_show_chain : MonoSp sp_show_chain := fun ss Q Q' E E' hq he ⟨xs, ys, h1, h0, h2, h3⟩ => ⟨xs, ys, h1, h0, h2, hq _ _ h3⟩
theorem len_show_chain : ∀ ss Q E, sp_show_chain ss Q E → ss.length = 2 := fun ss Q E ⟨xs, ys, h1, h2⟩ => by rw [h1]; rfl
def t_show_chain : DS := (dSeq (dExpr (dCall ms_need_log [] sp_need_log (daCons (dVar 0) daNil))) (dSeq (dExpr (dCall ms_need_chain [] sp_need_chain (daCons (dVar 0) (daCons (dVar 1) daNil)))) (dRet (dCall ms_chain_text [] sp_chain_text (daCons (dVar 1) daNil)))))
theorem pure_show_chain : ∀ ss Q E, sp_show_chain ss Q E → t_show_chain (excK [] E) (ss.map some ++ List.replicate (2 - 2) none) ⟨fun n => retK [] Q (.sh .none) n, retK [] Q, fun _ => False, fun _ => False⟩ := by
  rintro ss Q E ⟨xs, ys, rfl, hl, hf, hq⟩
  exact ⟨_, rfl, _, _, _, _, rfl, rfl, xs, rfl, hl, _, rfl, _, rfl, _, _, _, _, rfl, rfl, xs, ys, rfl, hl.most, hf, _, rfl, _, _, _, _, rfl, rfl, ys, hf.small hl.most, hf.most, rfl, _, rfl, rfl, hq⟩
def ms_read_chain : List Md := [.ro, .ro]
def sp_read_chain : DSp := fun ss Q _ => ∃ xs ys, ss = [.bor (lsI xs), .sh (.str (join1 ">" ys))] ∧ IsLog xs ∧ IsChain xs ys ∧ Q (.own (ys.map PyData.int)) []
theorem mono_read_chain : MonoSp sp_read_chain := fun ss Q Q' E E' hq he ⟨xs, ys, h1, h0, h2, h3⟩ => ⟨xs, ys, h1, h0, h2, hq _ _ h3⟩
theorem len_read_chain : ∀ ss Q E, sp_read_chain ss Q E → ss.length = 2 := fun ss Q E ⟨xs, ys, h1, h2⟩ => by rw [h1]; rfl
def t_read_chain : DS := (dSeq (dExpr (dCall ms_need_log [] sp_need_log (daCons (dVar 0) daNil))) (dSeq (dSet 2 (dIf (tst (dIsi (dVar 1) "str")) (dCall ms_numbers_in [] sp_numbers_in (daCons (dTx (dVar 1) (dC (.str ">")) kSplit) daNil)) (dC .none))) (dSeq (dIfS (dOr (tst (dIs (dVar 2) (dC .none))) (dNot (tst (dCall ms_is_chain_of [] sp_is_chain_of (daCons (dVar 0) (daCons (dVar 2) daNil)))))) dDead dNext) (dRet (dVar 2)))))
theorem pure_read_chain : ∀ ss Q E, sp_read_chain ss Q E → t_read_chain (excK [] E) (ss.map some ++ List.replicate (3 - 2) none) ⟨fun n => retK [] Q (.sh .none) n, retK [] Q, fun _ => False, fun _ => False⟩ := by
  rintro ss Q E ⟨xs, ys, rfl, hl, hf, hq⟩
  have hs := hf.small hl.most
  have hlen := join1_len (sep := ">") rfl hs
  have hm := hf.most
  have hsp := split1' tl_gt (by decide) (by decide +kernel) hs hf.ne
  have hz : (join1 ">" ys).length + 2 ≤ sizeLine := by simp [sizeLine]; omega
  refine ⟨_, rfl, _, _, _, _, rfl, rfl, xs, rfl, hl, ?_⟩
  refine ⟨_, rfl, _, rfl, true, rfl, iteT ⟨_, rfl, ⟨_, rfl⟩, _, _, rfl, rfl, rfl, hz, _, _, _, _, rfl, rfl, ys, hs, by omega, ?_, of_decide_eq_true rfl, ?_⟩⟩
  · rw [hsp]; rfl
  exact ⟨_, rfl, false, rfl, iteF ⟨_, rfl, _, rfl, _, _, _, _, rfl, rfl, xs, ys, rfl, hl.most, hf, true, rfl, iteF ⟨_, rfl, _, rfl, _, rfl, rfl, hq⟩⟩⟩
end T

set_option exponentiation.threshold 3000
/-! D66e: the law's draws. -/
namespace T
open PySem L2 L3
theorem p10 : (10 : Nat) ^ 60 ≤ 2 ^ 1000 := by decide +kernel
theorem p10b : (10 : Nat) ^ 120 ≤ 2 ^ 1000 := by decide +kernel
theorem p10i : (10 : Int) ^ 9 ≤ 2 ^ 1000 := by decide +kernel
theorem mok {i j : Int} (hi : i.natAbs < 10 ^ 120) (hj : j.natAbs < 10 ^ 120) : MOk i j := ⟨big_of (Nat.lt_of_lt_of_le hi p10b) (by decide), big_of (Nat.lt_of_lt_of_le hj p10b) (by decide)⟩
theorem dok {j : Int} (h0 : 0 < j) (h1 : j < 10 ^ 9) : DOk j := ⟨h0, Int.lt_of_lt_of_le h1 p10i⟩
theorem cpow {i j : Int} (h0 : 0 ≤ j) (h1 : j ≤ 4) (h2 : i.natAbs < 10 ^ 60) : CPowW i j := .inl ⟨h0, h1, Nat.lt_of_lt_of_le h2 p10⟩
theorem cten {j : Int} (h0 : 0 ≤ j) (h1 : j ≤ 100) : CPowW 10 j := .inr ⟨h0, by omega, by decide⟩
def Reel (m : Int) (r : List PyData) : Prop := ∃ a b c : Int, r = [.int a, .int b, .int c] ∧ 0 ≤ a ∧ 0 ≤ b ∧ b < 10 ^ 50 ∧ 0 ≤ c ∧ c ≤ m
theorem Reel.up {m m' : Int} {r : List PyData} (h : Reel m r) (hm : m ≤ m') : Reel m' r := by
  obtain ⟨a, b, c, e, h1, h2, h3, h4, h5⟩ := h
  exact ⟨a, b, c, e, h1, h2, h3, h4, by omega⟩
def ms__law_reel : List Md := [.ro, .ro]
def sp__law_reel : DSp := fun ss Q _ => ∃ (ns : List Int) (k : Nat), ss = [.scr ns, .sh (.int k)] ∧ k < 100 ∧ ∀ r, Reel 0 r → Q (.own r) []
theorem mono__law_reel : MonoSp sp__law_reel := fun ss Q Q' E E' hq he ⟨xs, ys, h1, h0, h2⟩ => ⟨xs, ys, h1, h0, fun r h => hq _ _ (h2 r h)⟩
theorem len__law_reel : ∀ ss Q E, sp__law_reel ss Q E → ss.length = 2 := fun ss Q E ⟨xs, ys, h1, h2⟩ => by rw [h1]; rfl
def t__law_reel : DS := (dSeq (dSet 2 (dC (.int 0))) (dSeq (dIfS (tst (dLt (dVar 1) (dN (daCons (dVar 0) daNil) kLen))) (dSet 2 (dIx (dVar 0) (dVar 1))) dNext) (dRet (dLst (daCons (dN (daCons (dC (.int 0)) (daCons (dSub (dVar 2) (dPow (dC (.int 10)) (dC (.int 18)))) daNil)) (kF2 fMax2)) (daCons (dAdd (dAdd (dMul (dMod (dVar 2) (dAdd (dPow (dC (.int 10)) (dC (.int 40))) (dC (.int 177)))) (dC (.int 512))) (dMul (dC (.int 31)) (dVar 1))) (dC (.int 9))) (daCons (dC (.int 0)) daNil)))))))
theorem bT {c : Bool} (h : c = true) : some (PyData.bool c) = some (.bool true) := by rw [h]
theorem bF {c : Bool} (h : c = false) : some (PyData.bool c) = some (.bool false) := by rw [h]
theorem reel_end {ns : List Int} {k : Nat} {cell : Int} {Q : Sl → List (Option Sl) → Prop} {ex : DX} (hk : k < 100) (hq : ∀ r, Reel 0 r → Q (.own r) []) :
    (dRet (dLst (daCons (dN (daCons (dC (.int 0)) (daCons (dSub (dVar 2) (dPow (dC (.int 10)) (dC (.int 18)))) daNil)) (kF2 fMax2)) (daCons (dAdd (dAdd (dMul (dMod (dVar 2) (dAdd (dPow (dC (.int 10)) (dC (.int 40))) (dC (.int 177)))) (dC (.int 512))) (dMul (dC (.int 31)) (dVar 1))) (dC (.int 9))) (daCons (dC (.int 0)) daNil))))) ex [some (.scr ns), some (.sh (.int k)), some (.sh (.int cell))] ⟨fun n => retK [] Q (.sh .none) n, retK [] Q, fun _ => False, fun _ => False⟩ := by
  have h0 : (0 : Int) ≤ cell % ((10 : Int) ^ (40 : Int).toNat + 177) := Int.emod_nonneg _ (by decide)
  have h1 : cell % ((10 : Int) ^ (40 : Int).toNat + 177) < (10 : Int) ^ (40 : Int).toNat + 177 := Int.emod_lt_of_pos _ (by decide)
  have e40 : (10 : Int) ^ (40 : Int).toNat = 10000000000000000000000000000000000000000 := by decide +kernel
  rw [e40] at h0 h1
  refine ⟨_, rfl, cten (by decide) (by decide), trivial, _, _, _, rfl, rfl, rfl, _, rfl, cten (by decide) (by decide), ?_, ?_, _, rfl, ?_, _, _, rfl, of_decide_eq_true rfl, _, rfl, rfl, ?_⟩
  · rw [e40]; show (0 : Int) < 10000000000000000000000000000000000000000 + 177; decide
  · rw [e40]; exact mok (by omega) (by decide)
  · exact mok (by decide) (by omega)
  · refine hq _ ⟨_, _, _, rfl, ?_, ?_, ?_, by decide, by decide⟩
    · split <;> omega
    · rw [e40]; omega
    · rw [e40]; omega
theorem pure__law_reel : ∀ ss Q E, sp__law_reel ss Q E → t__law_reel (excK [] E) (ss.map some ++ List.replicate (3 - 2) none) ⟨fun n => retK [] Q (.sh .none) n, retK [] Q, fun _ => False, fun _ => False⟩ := by
  rintro ss Q E ⟨ns, k, rfl, hk, hq⟩
  refine ⟨of_decide_eq_true rfl, ?_⟩
  by_cases h : k < ns.length
  · have hat : atI ns (k : Int) = some ns[k] := atI_at (by omega) (by rw [Int.toNat_natCast]; exact List.getElem?_eq_getElem h)
    have hix : ∀ n : En, ixOf n (.tmp (.scr ns)) (k : Int) = some (.tmp (.sh (.int ns[k]))) := fun n => by
      show Option.map _ (atI ns (k : Int)) = _
      rw [hat]; rfl
    refine ⟨_, rfl, _, rfl, _, rfl, trivial, true, bT (decide_eq_true (by omega)), iteT ⟨_, rfl, _, rfl, _, _, rfl, hix _, of_decide_eq_true rfl, ?_⟩⟩
    exact reel_end hk hq
  · refine ⟨_, rfl, _, rfl, _, rfl, trivial, false, bF (decide_eq_false (by omega)), iteF ?_⟩
    exact reel_end hk hq

def ms__law_turn : List Md := [.io, .ro]
def sp__law_turn : DSp := fun ss Q _ => ∃ (r : List PyData) (size m : Int), ss = [.own r, .sh (.int size)] ∧ Reel m r ∧ m < 10 ^ 15 ∧ 0 < size ∧ size < 10 ^ 9 ∧ ∀ r' v, Reel (m + 1) r' → 0 ≤ v → v < size → Q (.sh (.int v)) [some (.own r')]
theorem mono__law_turn : MonoSp sp__law_turn := fun ss Q Q' E E' hq he ⟨r, s, m, h1, h2, h3, h4, h5, h6⟩ => ⟨r, s, m, h1, h2, h3, h4, h5, fun r' v a b c => hq _ _ (h6 r' v a b c)⟩
theorem len__law_turn : ∀ ss Q E, sp__law_turn ss Q E → ss.length = 2 := fun ss Q E ⟨r, s, m, h1, h2⟩ => by rw [h1]; rfl
def t__law_turn : DS := (dSeq (dIfS (tst (dGt (dIx (dVar 0) (dC (.int 0))) (dC (.int 0)))) (dSeq (dSet 2 (dMod (dIx (dVar 0) (dC (.int 0))) (dVar 1))) (dSeq (dSto 0 (dFdiv (dIx (dVar 0) (dC (.int 0))) (dVar 1)) (dC (.int 0))) (dRet (dVar 2)))) dNext) (dSeq (dSto 0 (dAdd (dIx (dVar 0) (dC (.int 2))) (dC (.int 1))) (dC (.int 2))) (dSeq (dSet 3 (dMod (dPow (dAdd (dIx (dVar 0) (dC (.int 1))) (dMul (dC (.int 2860486313)) (dIx (dVar 0) (dC (.int 2))))) (dC (.int 3))) (dAdd (dPow (dC (.int 10)) (dC (.int 43))) (dC (.int 57))))) (dSeq (dSet 3 (dMod (dAdd (dMul (dVar 3) (dVar 3)) (dMul (dC (.int 1073676287)) (dIx (dVar 0) (dC (.int 2))))) (dAdd (dPow (dC (.int 10)) (dC (.int 42))) (dC (.int 63))))) (dRet (dMod (dFdiv (dVar 3) (dC (.int 524347))) (dVar 1)))))))
theorem pure__law_turn : ∀ ss Q E, sp__law_turn ss Q E → t__law_turn (excK [0] E) (ss.map some ++ List.replicate (4 - 2) none) ⟨fun n => retK [0] Q (.sh .none) n, retK [0] Q, fun _ => False, fun _ => False⟩ := by
  rintro ss Q E ⟨r, size, m, rfl, ⟨a, b, c, rfl, ha, hb, hb2, hc, hc2⟩, hm, hs, hs2, hq⟩
  by_cases h : 0 < a
  · refine ⟨_, rfl, 0, .tmp (.sh (.int a)), rfl, rfl, trivial, true, bT (decide_eq_true h), iteT ?_⟩
    refine ⟨_, rfl, 0, .tmp (.sh (.int a)), rfl, rfl, _, rfl, hs, of_decide_eq_true rfl, ?_⟩
    refine ⟨_, rfl, 0, .tmp (.sh (.int a)), rfl, rfl, _, rfl, dok hs hs2, ⟨_, rfl⟩, [.int a, .int b, .int c], 0, 0, .int (a / size), _, rfl, rfl, rfl, rfl, ?_⟩
    refine ⟨_, rfl, _, rfl, rfl, ?_⟩
    exact hq [.int (a / size), .int b, .int c] (a % size) ⟨_, _, _, rfl, Int.ediv_nonneg ha (by omega), hb, hb2, hc, by omega⟩ (Int.emod_nonneg _ (by omega)) (Int.emod_lt_of_pos _ hs)
  · refine ⟨_, rfl, 0, .tmp (.sh (.int a)), rfl, rfl, trivial, false, bF (decide_eq_false h), iteF ?_⟩
    refine ⟨_, rfl, 2, .tmp (.sh (.int c)), rfl, rfl, ⟨_, rfl⟩, [.int a, .int b, .int c], 2, 2, .int (c + 1), _, rfl, rfl, rfl, rfl, ?_⟩
    have e43 : (10 : Int) ^ (43 : Int).toNat = 10000000000000000000000000000000000000000000 := by decide +kernel
    have e42 : (10 : Int) ^ (42 : Int).toNat = 1000000000000000000000000000000000000000000 := by decide +kernel
    generalize hx : (b + 2860486313 * (c + 1)) ^ (3 : Int).toNat % ((10 : Int) ^ (43 : Int).toNat + 57) = x
    have x0 : 0 ≤ x := by rw [← hx, e43]; exact Int.emod_nonneg _ (by decide)
    have x1 : x < 10000000000000000000000000000000000000000057 := by rw [← hx, e43]; exact Int.emod_lt_of_pos _ (by decide)
    refine ⟨_, rfl, 1, .tmp (.sh (.int b)), rfl, rfl, _, rfl, 2, .tmp (.sh (.int (c + 1))), rfl, rfl, mok (by decide) (by omega), cpow (by decide) (by decide) (by omega), cten (by decide) (by decide), ?_, of_decide_eq_true rfl, ?_⟩
    · rw [e43]; show (0 : Int) < 10000000000000000000000000000000000000000000 + 57; decide
    simp only [hx]
    refine ⟨_, rfl, _, rfl, mok (by omega) (by omega), _, rfl, 2, .tmp (.sh (.int (c + 1))), rfl, rfl, mok (by decide) (by omega), cten (by decide) (by decide), ?_, of_decide_eq_true rfl, ?_⟩
    · rw [e42]; show (0 : Int) < 1000000000000000000000000000000000000000000 + 63; decide
    refine ⟨_, rfl, dok (by decide) (by decide), _, rfl, hs, _, rfl, rfl, ?_⟩
    exact hq [.int a, .int b, .int (c + 1)] _ ⟨_, _, _, rfl, ha, hb, hb2, by omega, by omega⟩ (Int.emod_nonneg _ (by omega)) (Int.emod_lt_of_pos _ hs)
end T

/-! D66f: the law's logs. -/
namespace T
open PySem L2 L3
structure Grow (k : Nat) (xs ts : List Int) : Prop where
  len : xs.length = k
  pos : 1 ≤ k
  ent : ∀ (i : Nat) x, xs[i]? = some x → 0 ≤ x ∧ x ≤ max 0 ((i : Int) - 1)
  cross : ∀ (i j : Nat) x y, xs[i]? = some x → xs[j]? = some y → i < j → ¬ (x < y ∧ y < i)
  tne : 1 ≤ ts.length
  tin : ∀ (i : Nat) t, ts[i]? = some t → 0 ≤ t ∧ t < k
  tup : ∀ (i j : Nat) s t, ts[i]? = some s → ts[j]? = some t → i < j → s < t
  tok : ∀ t ∈ ts, ∀ (i : Nat) x, xs[i]? = some x → ¬ (x < t ∧ t < i)
  tlen : ts.length ≤ k
theorem Grow.start : Grow 1 [0] [0] where
  len := rfl
  pos := by decide
  ent := fun i x h => by
    cases i with
    | zero => simp at h; subst h; omega
    | succ i => simp at h
  cross := fun i j x y h1 h2 hij => by
    cases j with
    | zero => omega
    | succ j => simp at h2
  tne := by decide
  tin := fun i x h => by
    cases i with
    | zero => simp at h; subst h; simp
    | succ i => simp at h
  tup := fun i j x y h1 h2 hij => by
    cases j with
    | zero => omega
    | succ j => simp at h2
  tok := fun t ht i x h => by
    simp at ht; subst ht
    cases i with
    | zero => simp at h; subst h; simp
    | succ i => simp at h
  tlen := by decide
theorem Grow.next {k : Nat} {xs ts : List Int} (g : Grow k xs ts) {p : Nat} {y : Int} (hp : ts[p]? = some y) : Grow (k + 1) (xs ++ [y]) (ts.take (p + 1) ++ [(k : Int)]) := by
  have hy := g.tin p y hp
  have hpl : p < ts.length := (List.getElem?_eq_some_iff.mp hp).1
  have hyt : y ∈ ts := List.mem_of_getElem? hp
  have at_x : ∀ (i : Nat) x, (xs ++ [y])[i]? = some x → (i < k ∧ xs[i]? = some x) ∨ (i = k ∧ x = y) := fun i x h => by
    by_cases hi : i < xs.length
    · rw [List.getElem?_append_left hi] at h
      exact .inl ⟨by rw [g.len] at hi; exact hi, h⟩
    · rw [List.getElem?_append_right (by omega)] at h
      cases e : i - xs.length with
      | zero => rw [e] at h; simp at h; exact .inr ⟨by have := g.len; omega, h.symm⟩
      | succ m => rw [e] at h; simp at h
  have tl : (ts.take (p + 1)).length = p + 1 := by rw [List.length_take]; omega
  have at_t : ∀ (i : Nat) t, (ts.take (p + 1) ++ [(k : Int)])[i]? = some t → (i ≤ p ∧ ts[i]? = some t) ∨ (i = p + 1 ∧ t = k) := fun i t h => by
    by_cases hi : i < p + 1
    · rw [List.getElem?_append_left (by omega), List.getElem?_take_of_lt hi] at h
      exact .inl ⟨by omega, h⟩
    · rw [List.getElem?_append_right (by omega), tl] at h
      cases e : i - (p + 1) with
      | zero => rw [e] at h; simp at h; exact .inr ⟨by omega, h.symm⟩
      | succ m => rw [e] at h; simp at h
  refine ⟨by simp [g.len], by omega, fun i x h => ?_, fun i j x z h1 h2 hij => ?_, by simp, fun i t h => ?_, fun i j s t h1 h2 hij => ?_, fun t ht i x h => ?_, ?_⟩
  · rcases at_x i x h with ⟨a, b⟩ | ⟨a, b⟩
    · exact g.ent i x b
    · subst a b; omega
  · rcases at_x i x h1 with ⟨a, b⟩ | ⟨a, b⟩ <;> rcases at_x j z h2 with ⟨c, d⟩ | ⟨c, d⟩
    · exact g.cross i j x z b d hij
    · subst d; exact g.tok z hyt i x b
    · omega
    · omega
  · rcases at_t i t h with ⟨a, b⟩ | ⟨a, b⟩
    · have := g.tin i t b; omega
    · omega
  · rcases at_t i s h1 with ⟨a, b⟩ | ⟨a, b⟩ <;> rcases at_t j t h2 with ⟨c, d⟩ | ⟨c, d⟩
    · exact g.tup i j s t b d hij
    · have := g.tin i s b; omega
    · omega
    · omega
  · obtain ⟨q, hq, e⟩ := List.mem_iff_getElem.mp ht
    have hq' : (ts.take (p + 1) ++ [(k : Int)])[q]? = some t := by rw [List.getElem?_eq_getElem hq, e]
    rcases at_x i x h with ⟨a, b⟩ | ⟨a, b⟩ <;> rcases at_t q t hq' with ⟨c, d⟩ | ⟨c, d⟩
    · exact g.tok t (List.mem_of_getElem? d) i x b
    · omega
    · have : t ≤ y := by
        by_cases z : q = p
        · subst z; rw [hp] at d; cases d; omega
        · have := g.tup q p t y d hp (by omega); omega
      omega
    · omega
  · have := g.tlen
    simp [List.length_take]; omega
theorem Grow.log {k : Nat} {xs ts : List Int} (g : Grow k xs ts) (h : k ≤ 150) : IsLog xs := ⟨⟨by rw [g.len]; exact g.pos, by rw [g.len]; exact h, g.ent⟩, g.cross⟩
theorem cutTo {α : Type} (xs : List α) {k : Int} (h : 0 ≤ k) : cutL xs none (some k) = xs.take k.toNat := by
  obtain ⟨n, rfl⟩ := Int.eq_ofNat_of_zero_le h
  unfold cutL
  rw [HT.sIx_none]
  show (xs.drop 0).take (HT.sIx xs.length xs.length (some (n : Int)) - 0) = _
  rw [HT.sIx_nat, Int.toNat_natCast, List.drop_zero, Nat.sub_zero]
  by_cases hn : n ≤ xs.length
  · rw [Nat.min_eq_left hn]
  · rw [Nat.min_eq_right (by omega), List.take_length, List.take_of_length_le (by omega)]
theorem pick6 {s v0 v1 v2 v3 v4 v5 n : Int} (s0 : 0 ≤ s) (s1 : s < 6) (h0 : 0 ≤ v0 ∧ v0 < n) (h1 : 0 ≤ v1 ∧ v1 < n) (h2 : 0 ≤ v2 ∧ v2 < n) (h3 : 0 ≤ v3 ∧ v3 < n) (h4 : 0 ≤ v4 ∧ v4 < n) (h5 : 0 ≤ v5 ∧ v5 < n) :
    ∃ v, (∀ e : En, ixOf e (.tmp (.own [.int v0, .int v1, .int v2, .int v3, .int v4, .int v5])) s = some (.tmp (.sh (.int v)))) ∧ 0 ≤ v ∧ v < n := by
  have : s = 0 ∨ s = 1 ∨ s = 2 ∨ s = 3 ∨ s = 4 ∨ s = 5 := by omega
  rcases this with e | e | e | e | e | e <;> subst e
  · exact ⟨v0, fun _ => rfl, h0⟩
  · exact ⟨v1, fun _ => rfl, h1⟩
  · exact ⟨v2, fun _ => rfl, h2⟩
  · exact ⟨v3, fun _ => rfl, h3⟩
  · exact ⟨v4, fun _ => rfl, h4⟩
  · exact ⟨v5, fun _ => rfl, h5⟩
def ms__law_grown : List Md := [.io, .ro]
def sp__law_grown : DSp := fun ss Q _ => ∃ (r : List PyData) (n : Nat) (m : Int), ss = [.own r, .sh (.int n)] ∧ Reel m r ∧ m < 10 ^ 12 ∧ 1 ≤ n ∧ n ≤ 150 ∧ ∀ r' xs, Reel (m + 2000) r' → IsLog xs → xs.length = n → Q (.own (xs.map PyData.int)) [some (.own r')]
theorem mono__law_grown : MonoSp sp__law_grown := fun ss Q Q' E E' hq he ⟨r, s, m, h1, h2, h3, h4, h5, h6⟩ => ⟨r, s, m, h1, h2, h3, h4, h5, fun r' v a b c => hq _ _ (h6 r' v a b c)⟩
theorem len__law_grown : ∀ ss Q E, sp__law_grown ss Q E → ss.length = 2 := fun ss Q E ⟨r, s, m, h1, h2⟩ => by rw [h1]; rfl
def t__law_grown : DS := (dSeq (dPar [2, 3, 4] (daCons (dCall ms__law_turn [] sp__law_turn (daCons (dVar 0) (daCons (dC (.int 6)) daNil))) (daCons (dLst (daCons (dC (.int 0)) daNil)) (daCons (dLst (daCons (dC (.int 0)) daNil)) daNil)))) (dSeq (dFor [5] (iRng rng2 (daCons (dC (.int 1)) (daCons (dVar 1) daNil)) 5) (dSeq (dSet 6 (dN (daCons (dVar 4) daNil) kLen)) (dSeq (dPar [7, 8] (daCons (dCall ms__law_turn [] sp__law_turn (daCons (dVar 0) (daCons (dN (daCons (dC (.int 2)) (daCons (dVar 6) daNil)) (kF2 fMin2)) daNil))) (daCons (dSub (dSub (dVar 6) (dC (.int 1))) (dCall ms__law_turn [] sp__law_turn (daCons (dVar 0) (daCons (dN (daCons (dC (.int 3)) (daCons (dVar 6) daNil)) (kF2 fMin2)) daNil)))) daNil))) (dSeq (dSet 9 (dIf (tst (dEq (dCall ms__law_turn [] sp__law_turn (daCons (dVar 0) (daCons (dC (.int 6)) daNil))) (dC (.int 0)))) (dCall ms__law_turn [] sp__law_turn (daCons (dVar 0) (daCons (dVar 6) daNil))) (dSub (dVar 6) (dC (.int 1))))) (dSeq (dSet 10 (dIx (dLst (daCons (dCall ms__law_turn [] sp__law_turn (daCons (dVar 0) (daCons (dVar 6) daNil))) (daCons (dVar 7) (daCons (dVar 8) (daCons (dVar 9) (daCons (dFdiv (dVar 6) (dC (.int 2))) (daCons (dCall ms__law_turn [] sp__law_turn (daCons (dVar 0) (daCons (dVar 6) daNil))) daNil))))))) (dVar 2))) (dSeq (dExpr (dMut 3 (daCons (dIx (dVar 4) (dVar 10)) daNil) (kApp 3))) (dSet 4 (dAdd (dSl (dVar 4) doNo (doPart (dAdd (dVar 10) (dC (.int 1))))) (dLst (daCons (dVar 5) daNil)))))))))) (dRet (dVar 3))))
theorem grown_tail {ex : DX} {D : DEnds} {r5 : List PyData} {n i : Nat} {style low high rare m' : Int} {xs ts : List Int} {a10 : Option Sl} (hr : Reel m' r5) (hm : m' < 10 ^ 13) (st0 : 0 ≤ style) (st1 : style < 6) (hl : 0 ≤ low ∧ low < ts.length) (hh : 0 ≤ high ∧ high < ts.length) (hw : 0 ≤ rare ∧ rare < ts.length) (ht : ts.length ≤ 150) (hx : xs.length ≤ 150) (ht1 : 1 ≤ ts.length)
    (hD : ∀ r' y (p : Nat) a10, ts[p]? = some y → Reel (m' + 2) r' → D.nx [some (.own r'), some (.sh (.int n)), some (.sh (.int style)), some (.own (xs.map PyData.int ++ [.int y])), some (.own ((ts.take (p + 1)).map PyData.int ++ [.int (1 + i)])), some (.sh (.int (1 + i))), some (.sh (.int ts.length)), some (.sh (.int low)), some (.sh (.int high)), some (.sh (.int rare)), a10]) :
    (dSeq (dSet 10 (dIx (dLst (daCons (dCall ms__law_turn [] sp__law_turn (daCons (dVar 0) (daCons (dVar 6) daNil))) (daCons (dVar 7) (daCons (dVar 8) (daCons (dVar 9) (daCons (dFdiv (dVar 6) (dC (.int 2))) (daCons (dCall ms__law_turn [] sp__law_turn (daCons (dVar 0) (daCons (dVar 6) daNil))) daNil))))))) (dVar 2))) (dSeq (dExpr (dMut 3 (daCons (dIx (dVar 4) (dVar 10)) daNil) (kApp 3))) (dSet 4 (dAdd (dSl (dVar 4) doNo (doPart (dAdd (dVar 10) (dC (.int 1))))) (dLst (daCons (dVar 5) daNil)))))) ex [some (.own r5), some (.sh (.int n)), some (.sh (.int style)), some (.own (xs.map PyData.int)), some (.own (ts.map PyData.int)), some (.sh (.int (1 + i))), some (.sh (.int ts.length)), some (.sh (.int low)), some (.sh (.int high)), some (.sh (.int rare)), a10] D := by
  refine ⟨_, rfl, _, rfl, _, _, _, _, rfl, rfl, r5, _, m', rfl, hr, by omega, by omega, by omega, fun r6 v0 hr6 b0 b1 => ?_⟩
  refine ⟨_, rfl, _, rfl, _, rfl, _, rfl, dok (by decide) (by decide), _, rfl, _, rfl, _, _, _, _, rfl, rfl, r6, _, m' + 1, rfl, hr6, by omega, by omega, by omega, fun r7 v5 hr7 c0 c1 => ?_⟩
  obtain ⟨p, hp, p0, p1⟩ := pick6 st0 st1 ⟨b0, b1⟩ hl hh hw (v4 := (ts.length : Int) / 2) ⟨by omega, by omega⟩ ⟨c0, c1⟩
  refine ⟨_, _, rfl, of_decide_eq_true rfl, _, rfl, _, _, rfl, hp _, of_decide_eq_true rfl, ?_⟩
  have hpn : p.toNat < ts.length := by omega
  have hat : atI (ts.map PyData.int) p = some (.int ts[p.toNat]) := atI_int p0 (List.getElem?_eq_getElem hpn)
  have hix : ∀ e : En, e[4]? = some (some (.own (ts.map PyData.int))) → ixOf e (.loc 4) p = some (.tmp (.sh (.int ts[p.toNat]))) := fun e he => by
    unfold ixOf slotOf
    simp only [he, Option.join_some]
    show Option.map _ (atI (ts.map PyData.int) p) = _
    rw [hat]; rfl
  refine ⟨⟨_, rfl⟩, _, rfl, _, rfl, _, _, rfl, hix _ rfl, _, _, _, rfl, rfl, by rw [List.length_map]; simp [sizeLine]; omega, ?_⟩
  have ec : cutL (ts.map PyData.int) none (some (p + 1)) = (ts.take (p.toNat + 1)).map PyData.int := by
    rw [cutTo _ (by omega), List.map_take, show (p + 1).toNat = p.toNat + 1 by omega]
  refine ⟨_, rfl, _, rfl, _, rfl, rfl, _, rfl, _, _, rfl, of_decide_eq_true rfl, rfl, rfl, ?_, of_decide_eq_true rfl, ?_⟩
  · rw [ec]; simp [sizeLine, List.length_take]; omega
  · rw [ec]
    exact hD r7 _ p.toNat _ (List.getElem?_eq_getElem hpn) (by rw [show m' + 2 = m' + 1 + 1 by omega]; exact hr7)
theorem pure__law_grown : ∀ ss Q E, sp__law_grown ss Q E → t__law_grown (excK [0] E) (ss.map some ++ List.replicate (11 - 2) none) ⟨fun n => retK [0] Q (.sh .none) n, retK [0] Q, fun _ => False, fun _ => False⟩ := by
  rintro ss Q E ⟨r, n, m, rfl, hr, hm, hn, hn2, hq⟩
  refine ⟨_, rfl, _, _, _, _, rfl, rfl, r, 6, m, rfl, hr, by omega, by decide, by decide, fun r1 style hr1 st0 st1 => ?_⟩
  refine ⟨_, _, rfl, of_decide_eq_true rfl, _, _, rfl, of_decide_eq_true rfl, of_decide_eq_true rfl, of_decide_eq_true rfl, of_decide_eq_true rfl, ?_⟩
  refine ⟨_, rfl, 1, n, rfl, ⟨by decide, by decide⟩, ⟨by omega, by omega⟩, fun i e => ∃ r F T xs ts a5 a6 a7 a8 a9 a10, e = [some (.own r), some (.sh (.int n)), some (.sh (.int style)), some (.own F), some (.own T), a5, a6, a7, a8, a9, a10] ∧ F = xs.map PyData.int ∧ T = ts.map PyData.int ∧ Reel (m + 1 + 10 * i) r ∧ Grow (i + 1) xs ts,
    ⟨r1, _, _, [0], [0], _, _, _, _, _, _, rfl, rfl, rfl, by simpa using hr1, Grow.start⟩, ?_, ?_⟩
  · rintro i e hi ⟨r, F, T, xs, ts, a5, a6, a7, a8, a9, a10, rfl, rfl, rfl, hr, g⟩
    have hi2 : i + 1 < n := by omega
    have htl : ts.length ≤ 150 := by have := g.tlen; omega
    have ht1 := g.tne
    have hlen : ((ts.map PyData.int).length : Int) = (ts.length : Int) := by rw [List.length_map]
    refine ⟨of_decide_eq_true rfl, ?_⟩
    refine ⟨_, rfl, _, rfl, of_decide_eq_true rfl, ?_⟩
    rw [hlen]
    refine ⟨_, rfl, _, rfl, _, _, _, rfl, rfl, rfl, _, _, _, _, rfl, rfl, r, _, m + 1 + 10 * i, rfl, hr, by omega, ?_, ?_, fun r2 low hr2 l0 l1 => ?_⟩
    · split <;> omega
    · split <;> omega
    refine ⟨_, rfl, trivial, _, rfl, _, rfl, _, _, _, rfl, rfl, rfl, _, _, _, _, rfl, rfl, r2, _, _, rfl, hr2, by omega, ?_, ?_, fun r3 hi3 hr3 q0 q1 => ?_⟩
    · split <;> omega
    · split <;> omega
    refine ⟨trivial, of_decide_eq_true rfl, of_decide_eq_true rfl, ?_⟩
    refine ⟨_, rfl, _, _, _, _, rfl, rfl, r3, 6, _, rfl, hr3, by omega, by decide, by decide, fun r4 u hr4 u0 u1 => ?_⟩
    have fin : ∀ (r5 : List PyData) (rare : Int), Reel (m + 1 + 10 * i + 4) r5 → 0 ≤ rare → rare < (ts.length : Int) → ∀ D : DEnds, (∀ e, (∃ r F T xs ts a5 a6 a7 a8 a9 a10, e = [some (.own r), some (.sh (.int n)), some (.sh (.int style)), some (.own F), some (.own T), a5, a6, a7, a8, a9, a10] ∧ F = xs.map PyData.int ∧ T = ts.map PyData.int ∧ Reel (m + 1 + 10 * ((i + 1 : Nat) : Int)) r ∧ Grow (i + 1 + 1) xs ts) → D.nx e) →
        (dSeq (dSet 10 (dIx (dLst (daCons (dCall ms__law_turn [] sp__law_turn (daCons (dVar 0) (daCons (dVar 6) daNil))) (daCons (dVar 7) (daCons (dVar 8) (daCons (dVar 9) (daCons (dFdiv (dVar 6) (dC (.int 2))) (daCons (dCall ms__law_turn [] sp__law_turn (daCons (dVar 0) (daCons (dVar 6) daNil))) daNil))))))) (dVar 2))) (dSeq (dExpr (dMut 3 (daCons (dIx (dVar 4) (dVar 10)) daNil) (kApp 3))) (dSet 4 (dAdd (dSl (dVar 4) doNo (doPart (dAdd (dVar 10) (dC (.int 1))))) (dLst (daCons (dVar 5) daNil)))))) (excK [0] E) [some (.own r5), some (.sh (.int n)), some (.sh (.int style)), some (.own (xs.map PyData.int)), some (.own (ts.map PyData.int)), some (.sh (.int (1 + i))), some (.sh (.int ts.length)), some (.sh (.int low)), some (.sh (.int (ts.length - 1 - hi3))), some (.sh (.int rare)), a10] D := fun r5 rare hr5 w0 w1 D hD => by
      refine grown_tail hr5 (by omega) st0 st1 ⟨l0, ?_⟩ ⟨?_, by omega⟩ ⟨w0, w1⟩ htl (by have := g.len; omega) ht1 fun r' y p a10 hp hr' => hD _ ⟨r', _, _, xs ++ [y], ts.take (p + 1) ++ [((i + 1 : Nat) : Int)], _, _, _, _, _, _, rfl, by rw [List.map_append]; rfl, ?_, hr'.up (by omega), g.next hp⟩
      · have := l1; split at this <;> omega
      · have := q1; split at this <;> omega
      · rw [List.map_append]
        congr 1
        show [PyData.int (1 + (i : Int))] = [PyData.int ((i + 1 : Nat) : Int)]
        rw [show (1 + (i : Int)) = ((i + 1 : Nat) : Int) by omega]
    have hr4' := hr4.up (m' := m + 1 + 10 * i + 3) (by omega)
    by_cases hu : u = 0
    · subst hu
      refine ⟨_, _, true, rfl, rfl, rfl, true, rfl, iteT ⟨_, rfl, _, rfl, _, _, _, _, rfl, rfl, r4, _, _, rfl, hr4', by omega, by omega, by omega, fun r5 rare hr5 w0 w1 => ⟨of_decide_eq_true rfl, fin r5 rare (hr5.up (by omega)) w0 w1 _ fun e z => z⟩⟩⟩
    · have he : eqD (.int u) (.int 0) = some false := by simp [eqD, hu]
      refine ⟨_, _, false, rfl, rfl, he, false, rfl, iteF ⟨_, rfl, trivial, of_decide_eq_true rfl, fin r4 _ (hr4'.up (by omega)) (by omega) (by omega) _ fun e z => z⟩⟩
  · rintro e ⟨r, F, T, xs, ts, a5, a6, a7, a8, a9, a10, rfl, rfl, rfl, hr, g⟩
    have hn' : ((n : Int) - 1).toNat + 1 = n := by omega
    rw [hn'] at g
    exact ⟨_, rfl, _, rfl, _, rfl, rfl, hq _ xs (hr.up (by omega)) (g.log hn2) g.len⟩
end T

/-! D66g: the law's chains. -/
namespace T
open PySem L2 L3
theorem IsChain.snoc {xs ys : List Int} {a b : Int} (h : IsChain xs ys) (hl : ys.length < 200) (ha : ys[ys.length - 1]? = some a) (hb : 0 ≤ b ∧ b < xs.length) (hr : (b = a - 1 ∨ xs[a.toNat]? = some b) ∧ b < a) : IsChain xs (ys ++ [b]) where
  ne := by simp
  most := by simp; omega
  ent := fun y hy => by
    rcases List.mem_append.mp hy with z | z
    · exact h.ent y z
    · simp at z; subst z; exact hb
  rel := fun i c d h1 h2 => by
    have hp : 1 ≤ ys.length := List.length_pos_iff.mpr h.ne
    by_cases hi : i + 1 < ys.length
    · rw [List.getElem?_append_left (by omega)] at h1
      rw [List.getElem?_append_left hi] at h2
      exact h.rel i c d h1 h2
    · rw [List.getElem?_append_right (by omega)] at h2
      cases e : i + 1 - ys.length with
      | succ m => rw [e] at h2; simp at h2
      | zero =>
        rw [e] at h2
        simp at h2
        subst h2
        have ei : i = ys.length - 1 := by omega
        rw [List.getElem?_append_left (by omega), ei, ha] at h1
        cases h1
        exact hr
theorem IsChain.one {xs : List Int} {a : Int} (h : 0 ≤ a ∧ a < xs.length) : IsChain xs [a] where
  ne := by simp
  most := by simp
  ent := fun y hy => by simp at hy; subst hy; exact h
  rel := fun i c d h1 h2 => by simp at h2
theorem atI_last {xs : List Int} {a : Int} (hp : 1 ≤ xs.length) (h : xs[xs.length - 1]? = some a) : atI (xs.map PyData.int) (-1) = some (.int a) := by
  unfold atI ixN
  rw [if_neg (by decide), if_pos (by rw [List.length_map]; omega)]
  show (xs.map PyData.int)[((-1 : Int) + ((xs.map PyData.int).length : Int)).toNat]? = _
  rw [List.length_map, show ((-1 : Int) + (xs.length : Int)).toNat = xs.length - 1 by omega, List.getElem?_map, h]; rfl
theorem pick2 {s v0 v1 : Int} (s0 : 0 ≤ s) (s1 : s < 2) : ∃ v, (∀ e : En, ixOf e (.tmp (.own [.int v0, .int v1])) s = some (.tmp (.sh (.int v)))) ∧ (v = v0 ∨ v = v1) := by
  have : s = 0 ∨ s = 1 := by omega
  rcases this with e | e <;> subst e
  · exact ⟨v0, fun _ => rfl, .inl rfl⟩
  · exact ⟨v1, fun _ => rfl, .inr rfl⟩
theorem pick3 {s v0 v1 v2 : Int} (s0 : 0 ≤ s) (s1 : s < 3) : ∃ v, (∀ e : En, ixOf e (.tmp (.own [.int v0, .int v1, .int v2])) s = some (.tmp (.sh (.int v)))) ∧ (v = v0 ∨ v = v1 ∨ v = v2) := by
  have : s = 0 ∨ s = 1 ∨ s = 2 := by omega
  rcases this with e | e | e <;> subst e
  · exact ⟨v0, fun _ => rfl, .inl rfl⟩
  · exact ⟨v1, fun _ => rfl, .inr (.inl rfl)⟩
  · exact ⟨v2, fun _ => rfl, .inr (.inr rfl)⟩
def ms__law_chain : List Md := [.io, .ro, .ro]
def sp__law_chain : DSp := fun ss Q _ => ∃ (r : List PyData) (xs : List Int) (q m : Int), ss = [.own r, .bor (lsI xs), .sh (.int q)] ∧ Reel m r ∧ m < 10 ^ 12 ∧ IsLog xs ∧ 1 ≤ q ∧ q ≤ 160 ∧ ∀ r' ys, Reel (m + 2000) r' → IsChain xs ys → Q (.own (ys.map PyData.int)) [some (.own r')]
theorem mono__law_chain : MonoSp sp__law_chain := fun ss Q Q' E E' hq he ⟨r, xs, q, m, h1, h2, h3, h4, h5, h6, h7⟩ => ⟨r, xs, q, m, h1, h2, h3, h4, h5, h6, fun r' v a b => hq _ _ (h7 r' v a b)⟩
theorem len__law_chain : ∀ ss Q E, sp__law_chain ss Q E → ss.length = 3 := fun ss Q E ⟨r, xs, q, m, h1, h2⟩ => by rw [h1]; rfl
def t__law_chain : DS := (dSeq (dSet 3 (dLst (daCons (dCall ms__law_turn [] sp__law_turn (daCons (dVar 0) (daCons (dN (daCons (dVar 1) daNil) kLen) daNil))) daNil))) (dSeq (dSet 4 (dCall ms__law_turn [] sp__law_turn (daCons (dVar 0) (daCons (dC (.int 3)) daNil)))) (dSeq (dFor [5] (iRng rng1 (daCons (dCall ms__law_turn [] sp__law_turn (daCons (dVar 0) (daCons (dVar 2) daNil))) daNil) 5) (dSeq (dSet 6 (dIx (dVar 3) (d1 (dC (.int 1)) kNeg))) (dSeq (dIfS (tst (dEq (dVar 6) (dC (.int 0)))) (dRet (dVar 3)) dNext) (dExpr (dMut 3 (daCons (dIx (dLst (daCons (dIx (dVar 1) (dVar 6)) (daCons (dSub (dVar 6) (dC (.int 1))) (daCons (dIx (dLst (daCons (dIx (dVar 1) (dVar 6)) (daCons (dSub (dVar 6) (dC (.int 1))) daNil))) (dCall ms__law_turn [] sp__law_turn (daCons (dVar 0) (daCons (dC (.int 2)) daNil)))) daNil)))) (dVar 4)) daNil) (kApp 3)))))) (dRet (dVar 3)))))
theorem pure__law_chain : ∀ ss Q E, sp__law_chain ss Q E → t__law_chain (excK [0] E) (ss.map some ++ List.replicate (7 - 3) none) ⟨fun n => retK [0] Q (.sh .none) n, retK [0] Q, fun _ => False, fun _ => False⟩ := by
  rintro ss Q E ⟨r, xs, q, m, rfl, hr, hm, hf, hq1, hq2, hq⟩
  have hl := hf.most
  have hl1 := hf.pos
  have hlen : ((xs.map PyData.int).length : Int) = (xs.length : Int) := by rw [List.length_map]
  refine ⟨_, rfl, _, rfl, _, rfl, ?_⟩
  rw [hlen]
  refine ⟨_, _, _, _, rfl, rfl, r, _, m, rfl, hr, by omega, by omega, by omega, fun r1 a hr1 a0 a1 => ?_⟩
  refine ⟨_, _, rfl, of_decide_eq_true rfl, of_decide_eq_true rfl, ?_⟩
  refine ⟨_, rfl, _, _, _, _, rfl, rfl, r1, 3, m + 1, rfl, hr1, by omega, by decide, by decide, fun r2 style hr2 s0 s1 => ?_⟩
  refine ⟨of_decide_eq_true rfl, ?_⟩
  refine ⟨_, rfl, _, rfl, _, _, _, _, rfl, rfl, r2, q, m + 1 + 1, rfl, hr2, by omega, by omega, by omega, fun r3 cnt hr3 c0 c1 => ?_⟩
  refine ⟨0, cnt, rfl, ⟨by decide, by decide⟩, ⟨by omega, by omega⟩, fun i e => ∃ r F ys a5 a6, e = [some (.own r), some (.bor (lsI xs)), some (.sh (.int q)), some (.own F), some (.sh (.int style)), a5, a6] ∧ F = ys.map PyData.int ∧ Reel (m + 3 + i) r ∧ IsChain xs ys ∧ ys.length = i + 1,
    ⟨r3, _, [a], _, _, rfl, rfl, hr3.up (by omega), IsChain.one ⟨a0, a1⟩, rfl⟩, ?_, ?_⟩
  · rintro i e hi ⟨r, F, ys, a5, a6, rfl, rfl, hr, hc, hyl⟩
    have hil : i < 160 := by omega
    have hp : ys.length - 1 < ys.length := by omega
    generalize hh : ys[ys.length - 1] = here
    have hg : ys[ys.length - 1]? = some here := by rw [List.getElem?_eq_getElem hp, hh]
    have hen := hc.ent here (List.mem_of_getElem? hg)
    have hlast := atI_last (xs := ys) (by omega) hg
    have hix : ∀ e : En, e[3]? = some (some (.own (ys.map PyData.int))) → ixOf e (.loc 3) (-1) = some (.tmp (.sh (.int here))) := fun e he => by
      unfold ixOf slotOf
      simp only [he, Option.join_some]
      show Option.map _ (atI (ys.map PyData.int) (-1)) = _
      rw [hlast]; rfl
    refine ⟨of_decide_eq_true rfl, ?_⟩
    refine ⟨_, rfl, -1, _, rfl, hix _ rfl, of_decide_eq_true rfl, ?_⟩
    by_cases h0 : here = 0
    · have he : eqD (.int here) (.int 0) = some true := by simp [eqD, h0]
      exact ⟨_, rfl, _, _, true, rfl, rfl, he, true, rfl, iteT ⟨_, rfl, _, rfl, _, rfl, rfl, hq r ys (hr.up (by omega)) hc⟩⟩
    · have he : eqD (.int here) (.int 0) = some false := by simp [eqD, h0]
      have hlt : here.toNat < xs.length := by omega
      generalize hv : xs[here.toNat] = v
      have hxg : xs[here.toNat]? = some v := by rw [List.getElem?_eq_getElem hlt, hv]
      have hve := hf.ent _ _ hxg
      have hat : atI (xs.map PyData.int) here = some (.int v) := atI_int hen.1 hxg
      have hx1 : ∀ e : En, ixOf e (.tmp (.bor (lsI xs))) here = some (.tmp (.sh (.int v))) := fun e => by
        show Option.map _ (atI (xs.map PyData.int) here) = _
        rw [hat]; rfl
      refine ⟨_, rfl, _, _, false, rfl, rfl, he, false, rfl, iteF ⟨⟨_, rfl⟩, ?_⟩⟩
      refine ⟨_, rfl, _, rfl, _, _, rfl, hx1 _, _, rfl, trivial, ?_⟩
      refine ⟨_, rfl, _, rfl, _, _, rfl, hx1 _, _, rfl, trivial, _, _, rfl, of_decide_eq_true rfl, ?_⟩
      refine ⟨_, rfl, _, _, _, _, rfl, rfl, r, 2, m + 3 + i, rfl, hr, by omega, by decide, by decide, fun r4 w hr4 w0 w1 => ?_⟩
      obtain ⟨z, hz, hz2⟩ := pick2 (v0 := v) (v1 := here - 1) w0 w1
      refine ⟨_, _, rfl, hz _, _, _, rfl, of_decide_eq_true rfl, ?_⟩
      obtain ⟨y, hy, hy2⟩ := pick3 (v0 := v) (v1 := here - 1) (v2 := z) s0 s1
      refine ⟨_, rfl, _, _, rfl, hy _, _, _, _, rfl, rfl, by rw [List.length_map]; simp [sizeLine]; omega, ?_⟩
      have hyy : y = v ∨ y = here - 1 := by
        rcases hy2 with z1 | z1 | z1
        · exact .inl z1
        · exact .inr z1
        · rw [z1]; exact hz2
      refine ⟨r4, _, ys ++ [y], _, _, rfl, by rw [List.map_append]; rfl, hr4.up (by omega), hc.snoc (by omega) hg ?_ ?_, by simp [hyl]⟩
      · rcases hyy with z1 | z1 <;> omega
      · rcases hyy with z1 | z1
        · exact ⟨.inr (by rw [z1]; exact hxg), by omega⟩
        · exact ⟨.inl z1, by omega⟩
  · rintro e ⟨r, F, ys, a5, a6, rfl, rfl, hr, hc, hyl⟩
    exact ⟨_, rfl, _, rfl, _, rfl, rfl, hq r ys (hr.up (by omega)) hc⟩
end T

/-! D66h: the law's check of one log and chain. -/
namespace T
open PySem L2 L3
theorem textFrom_le : ∀ (ts : List Str) (k : Nat) (acc : Str), (textFrom k acc ts).length ≤ acc.length + (ts.map fun t => t.length + 2).sum
  | [], _, _ => by simp [textFrom]
  | t :: ts, k, acc => by
    have ih := textFrom_le ts (k + 1) (acc ++ (if k > 0 then ", " else "" : String) ++ t)
    show (textFrom (k + 1) (acc ++ (if k > 0 then ", " else "" : String) ++ t) ts).length ≤ _
    rw [strLen_append, strLen_append] at ih
    have e : (((if k > 0 then ", " else "" : String) : Str)).length ≤ 2 := by split <;> decide
    simp only [List.map_cons, List.sum_cons]
    omega
theorem listText_le (ts : List Str) : (listText ts).length ≤ 2 + (ts.map fun t => t.length + 2).sum := by
  have := textFrom_le ts 0 "["
  unfold listText
  rw [strLen_append]
  have e1 : (("[" : Str)).length = 1 := rfl
  have e2 : (("]" : Str)).length = 1 := rfl
  omega
theorem shownAll_ints : ∀ xs : List Int, PyData.shownAll (xs.map PyData.int) = xs.map nt
  | [] => rfl
  | x :: xs => by rw [List.map_cons]; show PyData.shown (.int x) :: PyData.shownAll (xs.map PyData.int) = _; rw [shownAll_ints xs]; rfl
theorem sum_small2 : ∀ {ns : List Int}, (∀ n ∈ ns, Small n) → ((ns.map nt).map fun t => t.length + 2).sum ≤ 5 * ns.length
  | [], _ => by simp
  | n :: ns, h => by
    have := sum_small2 fun m hm => h m (List.mem_cons_of_mem _ hm)
    have := (nt_ok (h n (List.mem_cons_self ..))).hi
    simp only [List.map_cons, List.sum_cons, List.length_cons]; omega
theorem shown_le {xs : List Int} (h : ∀ n ∈ xs, Small n) : (lsI xs).shown.length ≤ 2 + 5 * xs.length := by
  show (listText (PyData.shownAll (xs.map PyData.int))).length ≤ _
  rw [shownAll_ints]
  have := listText_le (xs.map nt)
  have := sum_small2 h
  omega
theorem showable_ints : ∀ {xs : List Int}, (∀ n ∈ xs, Small n) → PyData.showableAll (xs.map PyData.int) = true
  | [], _ => rfl
  | x :: xs, h => by
    rw [List.map_cons]
    unfold PyData.showableAll
    rw [showable_ints fun m hm => h m (List.mem_cons_of_mem _ hm)]
    have hx := h x (List.mem_cons_self ..)
    have : x.natAbs.log2 < 1920 := PySem.Spec.log2_small (by obtain ⟨h0, h1⟩ := hx; have : x.natAbs < 2 ^ 10 := by omega
                                                             exact Nat.lt_of_lt_of_le this (Nat.pow_le_pow_right (by decide) (by decide)))
    simp [PyData.showable, this]
/-- what repr shows of a log and a chain -/
theorem repr_ok {xs ys : List Int} (hx : ∀ n ∈ xs, Small n) (hy : ∀ n ∈ ys, Small n) (lx : xs.length ≤ 200) (ly : ys.length ≤ 200) : reprD (.list [lsI xs, lsI ys]) = true := by
  have h1 := shown_le hx
  have h2 := shown_le hy
  have h3 : (PyData.list [lsI xs, lsI ys]).shown.length ≤ sizeLine := by
    show (listText [(lsI xs).shown, (lsI ys).shown]).length ≤ _
    have := listText_le [(lsI xs).shown, (lsI ys).shown]
    simp only [List.map_cons, List.map_nil, List.sum_cons, List.sum_nil] at this
    have : sizeLine = 2 ^ 24 := rfl
    omega
  unfold reprD
  simp only [Bool.and_eq_true, decide_eq_true_eq]
  refine ⟨⟨⟨⟨trivial, ?_⟩, ?_⟩, ?_⟩, h3⟩
  · simp [PyData.canLay0, PyData.canLayAll0, lay_ints]
  · simp [PyData.showable, PyData.showableAll, showable_ints hx, showable_ints hy]
  · simp [PyData.depth, PyData.depthAll, depthAll_ints]
theorem joinL_mem {S : List Nat} {c : Nat} : ∀ {ps : List (List Nat)}, c ∈ TL.joinL S ps → c ∈ S ∨ ∃ p ∈ ps, c ∈ p
  | [], h => by simp [TL.joinL] at h
  | [p], h => .inr ⟨p, by simp, by simpa [TL.joinL] using h⟩
  | p :: q :: r, h => by
    have h' : c ∈ p ++ (S ++ TL.joinL S (q :: r)) := h
    rcases List.mem_append.mp h' with z | z
    · exact .inr ⟨p, by simp, z⟩
    · rcases List.mem_append.mp z with z | z
      · exact .inl z
      · rcases joinL_mem z with w | ⟨p', hp, w⟩
        · exact .inl w
        · exact .inr ⟨p', List.mem_cons_of_mem _ hp, w⟩
theorem strOk_join {sep : Str} {d : Nat} (hs : TL.tl sep = [d]) (hd : d < 1000) {ns : List Int} (h : ∀ n ∈ ns, Small n) : PyData.strOk (join1 sep ns) = true := by
  unfold PyData.strOk
  rw [← Array.all_toList, List.all_eq_true]
  intro c hc
  have hc' : c ∈ TL.tl (Str.join sep (ns.map nt)) := by rw [← TL.join_eq]; exact hc
  rw [TL.tl_join, hs] at hc'
  rcases joinL_mem hc' with z | ⟨p, hp, z⟩
  · simp at z; subst z; exact decide_eq_true (by omega)
  · obtain ⟨q, hq, rfl⟩ := List.mem_map.mp hp
    obtain ⟨n, hn, rfl⟩ := List.mem_map.mp hq
    have := (nt_ok (h n hn)).dig c z
    exact decide_eq_true (by omega)
theorem strOk_log {xs : List Int} (h : ∀ n ∈ xs, Small n) : PyData.strOk (logT xs) = true := by
  unfold logT
  split
  · exact strOk_join tl_sp (by decide) fun n hn => h n (List.mem_of_mem_drop hn)
  · decide +kernel
theorem eqD_two {a b : Str} (ha : PyData.strOk a = true) (hb : PyData.strOk b = true) : eqD (.list [.str a, .str b]) (.list [.str a, .str b]) = some true := by
  have : SeqAt.shaped (.list [.str a, .str b]) = true := by simp [SeqAt.shaped, PyData.canLay0, PyData.canLayAll0, ha, hb, PyData.depth, PyData.depthAll]
  unfold eqD
  simp [this, PyData.eqv, PyData.eqvAll]
def ms__law_log_text : List Md := [.ro]
abbrev sp__law_log_text : DSp := sp_log_text
theorem mono__law_log_text : MonoSp sp__law_log_text := mono_log_text
theorem len__law_log_text : ∀ ss Q E, sp__law_log_text ss Q E → ss.length = 1 := len_log_text
def t__law_log_text : DS := t_log_text
theorem pure__law_log_text : ∀ ss Q E, sp__law_log_text ss Q E → t__law_log_text (excK [] E) (ss.map some ++ List.replicate (2 - 1) none) ⟨fun n => retK [] Q (.sh .none) n, retK [] Q, fun _ => False, fun _ => False⟩ := pure_log_text
def ms__law_right : List Md := [.ro, .ro]
def sp__law_right : DSp := fun ss Q _ => ∃ xs ys, ss = [.bor (lsI xs), .bor (lsI ys)] ∧ IsLog xs ∧ IsChain xs ys ∧ Q (.sh (.bool true)) []
theorem mono__law_right : MonoSp sp__law_right := fun ss Q Q' E E' hq he ⟨xs, ys, h1, h0, h2, h3⟩ => ⟨xs, ys, h1, h0, h2, hq _ _ h3⟩
theorem len__law_right : ∀ ss Q E, sp__law_right ss Q E → ss.length = 2 := fun ss Q E ⟨xs, ys, h1, h2⟩ => by rw [h1]; rfl
def t__law_right : DS := (dSeq (dSet 2 (dReprL (daCons (dVar 0) (daCons (dVar 1) daNil)))) (dSeq (dSet 3 (dLst (daCons (dCall ms__law_log_text [] sp__law_log_text (daCons (dVar 0) daNil)) (daCons (dTx (dC (.str ">")) (dLc [6] [6] (iLst (dVar 1) 6) dYes (dN (daCons (dVar 6) daNil) (kF1 fStr))) kJoin) daNil)))) (dSeq (dFor [4] (iRng rng1 (daCons (dC (.int 2)) daNil) 4) (dSeq (dIfS (dOr (tst (dNe (dLst (daCons (dCall ms_show_log [] sp_show_log (daCons (dVar 0) daNil)) (daCons (dCall ms_show_chain [] sp_show_chain (daCons (dVar 0) (daCons (dVar 1) daNil))) daNil))) (dVar 3))) (tst (dNe (dReprL (daCons (dVar 0) (daCons (dVar 1) daNil))) (dVar 2)))) (dRet (dC (.bool false))) dNext) (dTold 5 2 (daCons (dCall ms_read_log [] sp_read_log (daCons (dIx (dVar 3) (dC (.int 0))) daNil)) (daCons (dCall ms_read_chain [] sp_read_chain (daCons (dVar 0) (daCons (dIx (dVar 3) (dC (.int 1))) daNil))) daNil))))) (dRet (dEq (dReprL (daCons (dVar 0) (daCons (dVar 1) daNil))) (dVar 2))))))
theorem pure__law_right : ∀ ss Q E, sp__law_right ss Q E → t__law_right (excK [] E) (ss.map some ++ List.replicate (7 - 2) none) ⟨fun n => retK [] Q (.sh .none) n, retK [] Q, fun _ => False, fun _ => False⟩ := by
  rintro ss Q E ⟨xs, ys, rfl, hf, hc, hq⟩
  have hx := hf.small
  have hy := hc.small hf.most
  have hm := hc.most
  have hl := hf.most
  have hre := repr_ok hx hy (by omega) hm
  have he : eqD (.list [.str (logT xs), .str (join1 ">" ys)]) (.list [.str (logT xs), .str (join1 ">" ys)]) = some true := eqD_two (strOk_log hx) (strOk_join tl_gt (by decide) hy)
  have hk : ∀ k : Str, eqD (.str k) (.str k) = some true := fun k => by simp [eqD]
  refine ⟨_, rfl, _, rfl, _, rfl, hre, of_decide_eq_true rfl, of_decide_eq_true rfl, ?_⟩
  generalize hK : (PyData.list [lsI xs, lsI ys]).shown = kept
  have hkk : eqD (.str (PyData.list [lsI xs, lsI ys]).shown) (.str kept) = some true := by rw [hK]; exact hk kept
  refine ⟨_, rfl, _, _, _, _, rfl, rfl, xs, hx, hl, rfl, ⟨_, rfl⟩, _, rfl, _, _, _, rfl, ⟨?_, of_decide_eq_true rfl⟩, lc_inv (fun i => ((ys.take i).map nt).map PyData.str) rfl (fun i hi => ?_) ?_⟩
  · rw [List.length_map]; simp [sizeLine]; omega
  · have hi' : i < ys.length := by simpa using hi
    have hg : ys[i]? = some ys[i] := List.getElem?_eq_getElem hi'
    have hf := fStr_small (hy _ (List.getElem_mem hi'))
    rw [getD_map hg]
    unfold dYes
    refine iteT ⟨_, rfl, _, _, rfl, hf, _, _, rfl, rfl, ?_⟩
    rw [List.take_add_one, hg, List.map_append, List.map_append]; rfl
  have e2 : (ys.take (ys.map PyData.int).length) = ys := by rw [List.length_map, List.take_length]
  simp only [e2]
  refine ⟨">", ys.map nt, rfl, rfl, ?_, ?_⟩
  · have hsz := sum_small hy
    rw [List.map_map]
    have e3 : ((">" : Str)).length = 1 := rfl
    have e4 : (((fun x : Str => x.length) ∘ nt) : Int → Nat) = fun n => (nt n).length := rfl
    rw [e4, e3, List.length_map]; omega
  refine ⟨_, _, rfl, of_decide_eq_true rfl, of_decide_eq_true rfl, ?_⟩
  refine ⟨0, 2, rfl, ⟨by decide, by decide⟩, ⟨by decide, by decide⟩, fun i e => ∃ a4 a5 a6, e = [some (.bor (lsI xs)), some (.bor (lsI ys)), some (.sh (.str kept)), some (.own [.str (logT xs), .str (join1 ">" ys)]), a4, a5, a6], ⟨none, none, none, by rw [← hK]; rfl⟩, ?_, ?_⟩
  · rintro i e hi ⟨a4, a5, a6, rfl⟩
    refine ⟨of_decide_eq_true rfl, ?_⟩
    refine ⟨_, rfl, _, _, _, _, rfl, rfl, xs, rfl, hf, ?_⟩
    refine ⟨_, rfl, _, rfl, _, _, _, _, rfl, rfl, xs, ys, rfl, hf, hc, _, _, rfl, of_decide_eq_true rfl, ?_⟩
    refine ⟨_, rfl, _, _, true, rfl, rfl, he, false, rfl, iteF ?_⟩
    refine ⟨_, rfl, _, rfl, _, rfl, hre, of_decide_eq_true rfl, ?_⟩
    refine ⟨_, rfl, _, _, true, rfl, rfl, hkk, false, rfl, iteF ?_⟩
    refine ⟨_, rfl, 0, _, rfl, rfl, _, _, _, _, rfl, rfl, xs, rfl, hf, ?_⟩
    refine ⟨_, rfl, _, rfl, 1, _, rfl, rfl, _, _, _, _, rfl, rfl, xs, ys, rfl, hf, hc, ?_⟩
    exact ⟨_, _, kept, rfl, of_decide_eq_true rfl, by decide, rfl, hre, hK, by rw [List.length_map]; simp [sizeLine]; omega, by rw [List.length_map]; simp [sizeLine]; omega, _, _, _, rfl⟩
  · rintro e ⟨a4, a5, a6, rfl⟩
    refine ⟨_, rfl, _, rfl, _, rfl, hre, of_decide_eq_true rfl, ?_⟩
    exact ⟨_, rfl, _, _, true, rfl, rfl, hkk, _, rfl, rfl, hq⟩
end T

/-! D66i: the law. -/
namespace T
open PySem L2 L3
theorem IsLog.drop {xs : List Int} (h : IsLog xs) (hl : 1 < xs.length) : IsLog xs.dropLast := by
  have at_ : ∀ (i : Nat) x, xs.dropLast[i]? = some x → xs[i]? = some x := fun i x e => by
    obtain ⟨hi, e2⟩ := List.getElem?_eq_some_iff.mp e
    rw [List.length_dropLast] at hi
    rw [List.getElem_dropLast] at e2
    rw [List.getElem?_eq_getElem (by omega), e2]
  exact ⟨⟨by rw [List.length_dropLast]; omega, by rw [List.length_dropLast]; have := h.most; omega, fun i x e => h.ent i x (at_ i x e)⟩, fun i j x y e1 e2 => h.cross i j x y (at_ i x e1) (at_ j y e2)⟩
/-- a chain goes down -/
theorem chain_down {xs ys : List Int} (h : IsChain xs ys) : ∀ (i j : Nat) a b, ys[i]? = some a → ys[j]? = some b → i < j → b < a := by
  intro i j
  induction j with
  | zero => intro a b _ _ hij; omega
  | succ j ih =>
    intro a b h1 h2 hij
    have hj : j < ys.length := by have := (List.getElem?_eq_some_iff.mp h2).1; omega
    have hg : ys[j]? = some ys[j] := List.getElem?_eq_getElem hj
    have := (h.rel j _ _ hg h2).2
    by_cases e : i = j
    · subst e; rw [hg] at h1; cases h1; exact this
    · have := ih a _ h1 hg (by omega); omega
/-- what is left of a chain in the log without its newest entry -/
theorem IsChain.filter {xs : List Int} {c : Int} (hc : c = xs.length - 1) : ∀ {ys : List Int}, (∀ y ∈ ys, 0 ≤ y ∧ y < xs.length) → ys.length ≤ 200 → (∀ (i : Nat) a b, ys[i]? = some a → ys[i + 1]? = some b → (b = a - 1 ∨ xs[a.toNat]? = some b) ∧ b < a) → (ys.filter fun y => decide (y < c)) ≠ [] → IsChain xs.dropLast (ys.filter fun y => decide (y < c))
  | [], _, _, _, h => absurd rfl h
  | y :: ys, he, hm, hr, hne => by
    have hr' : ∀ (i : Nat) a b, ys[i]? = some a → ys[i + 1]? = some b → (b = a - 1 ∨ xs[a.toNat]? = some b) ∧ b < a := fun i a b h1 h2 => hr (i + 1) a b (by simpa using h1) (by simpa using h2)
    have he' : ∀ z ∈ ys, 0 ≤ z ∧ z < xs.length := fun z hz => he z (List.mem_cons_of_mem _ hz)
    have hm' : ys.length ≤ 200 := by simp at hm; omega
    by_cases hy : y < c
    · -- all smaller
      have hch : IsChain xs (y :: ys) := ⟨by simp, hm, he, hr⟩
      have all : (y :: ys).filter (fun y => decide (y < c)) = y :: ys := by
        refine List.filter_eq_self.mpr fun z hz => ?_
        rcases List.mem_cons.mp hz with rfl | hz
        · exact decide_eq_true hy
        · obtain ⟨j, hj, e⟩ := List.mem_iff_getElem.mp hz
          have := chain_down hch 0 (j + 1) y z rfl (by simp [List.getElem?_eq_getElem hj, e]) (by omega)
          exact decide_eq_true (by omega)
      rw [all] at hne ⊢
      have small : ∀ z ∈ y :: ys, z < c := fun z hz => by
        have : z ∈ (y :: ys).filter (fun y => decide (y < c)) := by rw [all]; exact hz
        simpa using (List.mem_filter.mp this).2
      refine ⟨by simp, hm, fun z hz => ?_, fun i a b h1 h2 => ?_⟩
      · have := he z hz
        have := small z hz
        rw [List.length_dropLast]; omega
      · obtain ⟨h3, h4⟩ := hr i a b h1 h2
        have ha := small a (List.mem_of_getElem? h1)
        have ha0 := he a (List.mem_of_getElem? h1)
        refine ⟨h3.imp_right fun z => ?_, h4⟩
        obtain ⟨hi, e⟩ := List.getElem?_eq_some_iff.mp z
        have hl : a.toNat < xs.dropLast.length := by rw [List.length_dropLast]; omega
        rw [List.getElem?_eq_getElem hl, List.getElem_dropLast, e]
    · have : (y :: ys).filter (fun y => decide (y < c)) = ys.filter fun y => decide (y < c) := by
        rw [List.filter_cons_of_neg]; simpa using hy
      rw [this] at hne ⊢
      exact IsChain.filter hc he' hm' hr' hne
theorem log0 : IsLog [0] := Grow.start.log (by decide)
theorem log00 : IsLog [0, 0] := (Grow.start.next (p := 0) (y := 0) rfl).log (by decide)
theorem text00 : logT [0, 0] = "0" := by decide +kernel
theorem chain0 : IsChain [0] [0] := IsChain.one ⟨by decide, by decide⟩
theorem ctext0 : join1 ">" [0] = "0" := by decide +kernel
theorem lcO_inv {vs : List Nat} {tt : DT} {te : DE} {n0 : En} {l j : Nat} {xs : List PyData} {Q : List PyData → En → Prop} (F : Nat → List PyData) (h0 : F 0 = []) (hl : n0[l]? = some (some (.own xs)))
    (hs : ∀ i, i < xs.length → tt exF (n0.set j (some (.sh (xs.getD i .none)))) fun b n2 => if b = true then te exF n2 fun v n3 => ∃ d n4, share v n3 = some (d, n4) ∧ (wipeE n4 vs = n0 ∧ F i ++ [d] = F (i + 1)) else (wipeE n2 vs = n0 ∧ F i = F (i + 1)))
    (hQ : Q (F xs.length) n0) : ∃ Wd : Nat → List PyData → En → Prop, Wd 0 [] n0 ∧
      (∀ (i : Nat) acc n, i < xs.length → Wd i acc n → n[l]? = some (some (.own xs)) ∧ tt exF (n.set j (some (.sh (xs.getD i .none)))) fun b n2 => if b = true then te exF n2 fun v n3 => ∃ d n4, share v n3 = some (d, n4) ∧ Wd (i + 1) (acc ++ [d]) (wipeE n4 vs) else Wd (i + 1) acc (wipeE n2 vs)) ∧
      ∀ acc n, Wd xs.length acc n → n[l]? = some (some (.own xs)) ∧ Q acc n := by
  refine ⟨fun i acc n => n = n0 ∧ acc = F i, ⟨rfl, h0.symm⟩, ?_, ?_⟩
  · rintro i acc n hi ⟨rfl, rfl⟩
    exact ⟨hl, hs i hi⟩
  · rintro acc n ⟨rfl, rfl⟩
    exact ⟨hl, hQ⟩
def ms_law : List Md := [.ro]
def sp_law : DSp := fun ss Q _ => ∃ ns : List Int, ss = [.scr ns] ∧ Q (.sh (.bool true)) []
theorem mono_law : MonoSp sp_law := fun ss Q Q' E E' hq he ⟨ns, h1, h2⟩ => ⟨ns, h1, hq _ _ h2⟩
theorem len_law : ∀ ss Q E, sp_law ss Q E → ss.length = 1 := fun ss Q E ⟨ns, h1, h2⟩ => by rw [h1]; rfl
def t_law : DS := (dSeq (dFor [1] (iRng rng1 (daCons (dN (daCons (dC (.int 1)) (daCons (dN (daCons (dC (.int 8)) (daCons (dAdd (dN (daCons (dVar 0) daNil) kLen) (dC (.int 1))) daNil)) (kF2 fMin2)) daNil)) (kF2 fMax2)) daNil) 1) (dSeq (dSet 2 (dCall ms__law_reel [] sp__law_reel (daCons (dVar 0) (daCons (dVar 1) daNil)))) (dFor [3] (iRng rng1 (daCons (dC (.int 4)) daNil) 3) (dSeq (dSet 4 (dAdd (dC (.int 1)) (dCall ms__law_turn [] sp__law_turn (daCons (dVar 2) (daCons (dIx (dLst (daCons (dC (.int 4)) (daCons (dC (.int 20)) (daCons (dIx (dLst (daCons (dC (.int 20)) (daCons (dC (.int 150)) daNil))) (dN (daCons (dEq (dVar 1) (dC (.int 0))) daNil) (kF1 fInt))) daNil)))) (dCall ms__law_turn [] sp__law_turn (daCons (dVar 2) (daCons (dC (.int 3)) daNil)))) daNil))))) (dSeq (dSet 5 (dCall ms__law_grown [] sp__law_grown (daCons (dVar 2) (daCons (dVar 4) daNil)))) (dSeq (dSet 6 (dCall ms__law_chain [] sp__law_chain (daCons (dVar 2) (daCons (dVar 5) (daCons (dAdd (dC (.int 1)) (dVar 4)) daNil))))) (dSeq (dIfS (dNot (tst (dCall ms__law_right [] sp__law_right (daCons (dVar 5) (daCons (dVar 6) daNil))))) (dRet (dC (.bool false))) dNext) (dIfS (tst (dGt (dVar 4) (dC (.int 1)))) (dSeq (dExpr (dMut 5 daNil (kPop 5))) (dSeq (dAll 6 (dLcO [7] 6 7 (tst (dLt (dVar 7) (dSub (dVar 4) (dC (.int 1))))) (dVar 7))) (dSeq (dSet 6 (dIf (tst (dNe (dVar 6) (dLst daNil))) (dVar 6) (dLst (daCons (dC (.int 0)) daNil)))) (dIfS (dNot (tst (dCall ms__law_right [] sp__law_right (daCons (dVar 5) (daCons (dVar 6) daNil))))) (dRet (dC (.bool false))) dNext)))) dNext)))))))) (dRet (vAnd (dEq (dCall ms_read_log [] sp_read_log (daCons (dC (.str "-")) daNil)) (dLst (daCons (dC (.int 0)) daNil))) (vAnd (dEq (dCall ms_read_log [] sp_read_log (daCons (dC (.str "0")) daNil)) (dLst (daCons (dC (.int 0)) (daCons (dC (.int 0)) daNil)))) (dEq (dCall ms_read_chain [] sp_read_chain (daCons (dLst (daCons (dC (.int 0)) daNil)) (daCons (dC (.str "0")) daNil))) (dLst (daCons (dC (.int 0)) daNil)))))))
theorem law_tail6 {ex : DX} {D : DEnds} {a0 a1 a2 a3 a4 a7 : Option Sl} {xs zs : List Int} (hfd : IsLog xs) (hco : zs ≠ [] → IsChain xs zs)
    (hD : ∀ a6, D.nx [a0, a1, a2, a3, a4, some (.own (xs.map PyData.int)), a6, a7]) : (dSeq (dSet 6 (dIf (tst (dNe (dVar 6) (dLst daNil))) (dVar 6) (dLst (daCons (dC (.int 0)) daNil)))) (dIfS (dNot (tst (dCall ms__law_right [] sp__law_right (daCons (dVar 5) (daCons (dVar 6) daNil))))) (dRet (dC (.bool false))) dNext)) ex [a0, a1, a2, a3, a4, some (.own (xs.map PyData.int)), some (.own (zs.map PyData.int)), a7] D := by
  by_cases hz0 : zs = []
  · have he : eqD (lsI zs) (.list []) = some true := by rw [eqD_nil]; simp [hz0]
    refine ⟨_, rfl, _, _, rfl, by decide, _, _, true, rfl, rfl, he, false, rfl, iteF ⟨_, _, rfl, of_decide_eq_true rfl, of_decide_eq_true rfl, ?_⟩⟩
    have hco' : IsChain xs [0] := IsChain.one ⟨by decide, by have := hfd.pos; omega⟩
    exact ⟨_, rfl, _, rfl, _, _, _, _, rfl, rfl, xs, [0], rfl, hfd, hco', true, rfl, iteF (hD _)⟩
  · have he : eqD (lsI zs) (.list []) = some false := by rw [eqD_nil]; simp [hz0]
    refine ⟨_, rfl, _, _, rfl, by decide, _, _, false, rfl, rfl, he, true, rfl, iteT ⟨_, rfl, of_decide_eq_true rfl, _, _, rfl, ?_⟩⟩
    exact ⟨_, rfl, _, rfl, _, _, _, _, rfl, rfl, xs, zs, rfl, hfd, hco hz0, true, rfl, iteF (hD _)⟩
theorem law_tail5 {ex : DX} {D : DEnds} {a0 a1 a2 a3 a7 : Option Sl} {xs ys : List Int} {s : Int} (hf : IsLog xs) (hs : s = xs.length) (hl : 1 < xs.length) (hch : IsChain xs ys)
    (hD : ∀ a6 a7, D.nx [a0, a1, a2, a3, some (.sh (.int s)), some (.own (xs.dropLast.map PyData.int)), a6, a7]) : (dSeq (dAll 6 (dLcO [7] 6 7 (tst (dLt (dVar 7) (dSub (dVar 4) (dC (.int 1))))) (dVar 7))) (dSeq (dSet 6 (dIf (tst (dNe (dVar 6) (dLst daNil))) (dVar 6) (dLst (daCons (dC (.int 0)) daNil)))) (dIfS (dNot (tst (dCall ms__law_right [] sp__law_right (daCons (dVar 5) (daCons (dVar 6) daNil))))) (dRet (dC (.bool false))) dNext))) ex [a0, a1, a2, a3, some (.sh (.int s)), some (.own (xs.dropLast.map PyData.int)), some (.own (ys.map PyData.int)), a7] D := by
  have hym := hch.most
  have hsz : (ys.map PyData.int).length ≤ sizeLine := by rw [List.length_map]; simp [sizeLine]; omega
  refine ⟨_, rfl, ⟨hsz, of_decide_eq_true rfl⟩, lcO_inv (fun i => ((ys.take i).filter fun y => decide (y < s - 1)).map PyData.int) rfl rfl (fun q hq' => ?_) ?_⟩
  · have hq2 : q < ys.length := by simpa using hq'
    have hg : ys[q]? = some ys[q] := List.getElem?_eq_getElem hq2
    rw [getD_map hg]
    by_cases hlt : ys[q] < s - 1
    · refine ⟨_, rfl, _, rfl, trivial, trivial, true, bT (decide_eq_true hlt), iteT ⟨_, rfl, _, _, rfl, rfl, ?_⟩⟩
      rw [List.take_add_one, hg, List.filter_append, List.map_append]
      simp [hlt, Sl.dat]
    · refine ⟨_, rfl, _, rfl, trivial, trivial, false, bF (decide_eq_false hlt), iteF ⟨rfl, ?_⟩⟩
      rw [List.take_add_one, hg, List.filter_append, List.map_append]
      simp [hlt]
  have et : ys.take (ys.map PyData.int).length = ys := by rw [List.length_map, List.take_length]
  simp only [et]
  have hzl : (ys.filter fun y => decide (y < s - 1)).length ≤ ys.length := List.length_filter_le _ _
  refine ⟨_, _, rfl, rfl, by rw [List.length_map, List.length_map]; simp [sizeLine]; omega, ?_⟩
  exact law_tail6 (hf.drop hl) (fun hz0 => IsChain.filter (by omega) hch.ent hch.most hch.rel hz0) fun a6 => hD a6 _
theorem law_tail4 {ex : DX} {D : DEnds} {a0 a1 a2 a3 a7 : Option Sl} {xs ys : List Int} {s : Int} (hf : IsLog xs) (hs : s = xs.length) (hch : IsChain xs ys)
    (hD : ∀ a5 a6 a7, D.nx [a0, a1, a2, a3, some (.sh (.int s)), a5, a6, a7]) : (dSeq (dIfS (dNot (tst (dCall ms__law_right [] sp__law_right (daCons (dVar 5) (daCons (dVar 6) daNil))))) (dRet (dC (.bool false))) dNext) (dIfS (tst (dGt (dVar 4) (dC (.int 1)))) (dSeq (dExpr (dMut 5 daNil (kPop 5))) (dSeq (dAll 6 (dLcO [7] 6 7 (tst (dLt (dVar 7) (dSub (dVar 4) (dC (.int 1))))) (dVar 7))) (dSeq (dSet 6 (dIf (tst (dNe (dVar 6) (dLst daNil))) (dVar 6) (dLst (daCons (dC (.int 0)) daNil)))) (dIfS (dNot (tst (dCall ms__law_right [] sp__law_right (daCons (dVar 5) (daCons (dVar 6) daNil))))) (dRet (dC (.bool false))) dNext)))) dNext)) ex [a0, a1, a2, a3, some (.sh (.int s)), some (.own (xs.map PyData.int)), some (.own (ys.map PyData.int)), a7] D := by
  refine ⟨_, rfl, _, rfl, _, _, _, _, rfl, rfl, xs, ys, rfl, hf, hch, true, rfl, iteF ?_⟩
  by_cases h1 : (1 : Int) < s
  · refine ⟨_, rfl, trivial, true, bT (decide_eq_true h1), iteT ?_⟩
    have hxl1 : 1 < xs.length := by omega
    refine ⟨⟨_, rfl⟩, _, _, rfl, List.getElem?_eq_getElem (by rw [List.length_map]; omega), ?_⟩
    have ed : (xs.map PyData.int).dropLast = xs.dropLast.map PyData.int := by rw [List.map_dropLast]
    rw [ed]
    exact law_tail5 hf hs hxl1 hch fun a6 a7 => hD _ a6 a7
  · exact ⟨_, rfl, trivial, false, bF (decide_eq_false h1), iteF (hD _ _ _)⟩
theorem pure_law : ∀ ss Q E, sp_law ss Q E → t_law (excK [] E) (ss.map some ++ List.replicate (8 - 1) none) ⟨fun n => retK [] Q (.sh .none) n, retK [] Q, fun _ => False, fun _ => False⟩ := by
  rintro ss Q E ⟨ns, rfl, hq⟩
  refine ⟨_, rfl, _, rfl, _, _, _, rfl, rfl, rfl, _, _, _, rfl, rfl, rfl, 0, _, rfl, ⟨by decide, by decide⟩, ⟨?_, ?_⟩, fun i e => ∃ a1 a2 a3 a4 a5 a6 a7, e = [some (.scr ns), a1, a2, a3, a4, a5, a6, a7], ⟨_, _, _, _, _, _, _, rfl⟩, ?_, ?_⟩
  · repeat' split
    all_goals omega
  · repeat' split
    all_goals omega
  · rintro i e hi ⟨a1, a2, a3, a4, a5, a6, a7, rfl⟩
    have hi8 : i < 10 := by
      revert hi
      repeat' split
      all_goals (intro hi; omega)
    refine ⟨of_decide_eq_true rfl, ?_⟩
    refine ⟨_, rfl, _, rfl, _, _, _, _, rfl, rfl, ns, i, by rw [Int.zero_add]; rfl, by omega, fun r hr => ⟨of_decide_eq_true rfl, ?_⟩⟩
    refine ⟨0, 4, rfl, ⟨by decide, by decide⟩, ⟨by decide, by decide⟩, fun j e => ∃ r a3 a4 a5 a6 a7, e = [some (.scr ns), some (.sh (.int (0 + i))), some (.own r), a3, a4, a5, a6, a7] ∧ Reel (5000 * j) r, ⟨r, _, _, _, _, _, rfl, by simpa using hr⟩, ?_, ?_⟩
    · rintro j e hj ⟨r, a3, a4, a5, a6, a7, rfl, hr⟩
      have hj4 : j < 4 := by simpa using hj
      refine ⟨of_decide_eq_true rfl, ?_⟩
      obtain ⟨c, hc⟩ : ∃ c, eqD (.int (0 + (i : Int))) (.int 0) = some c := ⟨_, rfl⟩
      obtain ⟨z, hz, hz2⟩ := pick2 (s := if (false != c) = true then 1 else 0) (v0 := 20) (v1 := 150) (by cases c <;> decide) (by cases c <;> decide)
      refine ⟨_, rfl, _, _, rfl, of_decide_eq_true rfl, _, rfl, _, _, _, rfl, rfl, hc, _, _, rfl, rfl, _, _, rfl, hz _, _, _, rfl, of_decide_eq_true rfl, ?_⟩
      refine ⟨_, rfl, _, _, _, _, rfl, rfl, r, 3, 5000 * j, rfl, hr, by omega, by decide, by decide, fun r1 w hr1 w0 w1 => ?_⟩
      obtain ⟨y, hy, hy2⟩ := pick3 (v0 := 4) (v1 := 20) (v2 := z) w0 w1
      have hy3 : 4 ≤ y ∧ y ≤ 150 := by
        rcases hy2 with e | e | e
        · omega
        · omega
        · rcases hz2 with e2 | e2 <;> omega
      refine ⟨_, _, rfl, hy _, _, _, _, _, rfl, rfl, r1, y, 5000 * j + 1, rfl, hr1, by omega, by omega, by omega, fun r2 v hr2 v0 v1 => ?_⟩
      refine ⟨of_decide_eq_true rfl, ?_⟩
      obtain ⟨n, hn⟩ : ∃ n : Nat, 1 + v = (n : Int) := ⟨(1 + v).toNat, by omega⟩
      refine ⟨_, rfl, _, rfl, _, _, _, _, rfl, rfl, r2, n, 5000 * j + 2, congrArg (fun z => [Sl.own r2, Sl.sh (.int z)]) hn, hr2.up (by omega), by omega, by omega, by omega, fun r3 xs hr3 hf hxl => ?_⟩
      refine ⟨of_decide_eq_true rfl, ?_⟩
      refine ⟨_, rfl, _, rfl, _, rfl, _, _, _, _, rfl, rfl, r3, xs, 1 + (1 + v), 5000 * j + 2002, rfl, hr3.up (by omega), by omega, hf, by omega, by omega, fun r4 ys hr4 hch => ?_⟩
      refine ⟨of_decide_eq_true rfl, ?_⟩
      have hr5 : Reel (5000 * ((j + 1 : Nat) : Int)) r4 := hr4.up (by omega)
      exact law_tail4 hf (by omega) hch fun a5 a6 a7 => ⟨r4, _, _, _, _, _, rfl, hr5⟩
    · rintro e ⟨r, a3, a4, a5, a6, a7, rfl, hr⟩
      exact ⟨_, _, _, _, _, _, _, rfl⟩
  · rintro e ⟨a1, a2, a3, a4, a5, a6, a7, rfl⟩
    refine ⟨_, _, _, _, rfl, rfl, [0], rfl, log0, _, _, rfl, of_decide_eq_true rfl, _, _, true, rfl, rfl, eqD_ints [0] [0], true, rfl, iteT ?_⟩
    refine ⟨_, _, _, _, rfl, rfl, [0, 0], by rw [text00]; rfl, log00, _, _, rfl, of_decide_eq_true rfl, _, _, true, rfl, rfl, eqD_ints [0, 0] [0, 0], true, rfl, iteT ?_⟩
    exact ⟨_, _, rfl, of_decide_eq_true rfl, _, _, _, _, rfl, rfl, [0], [0], by rw [ctext0]; rfl, log0, chain0, _, _, rfl, of_decide_eq_true rfl, _, _, true, rfl, rfl, eqD_ints [0] [0], _, rfl, rfl, hq⟩
end T

namespace T
open PySem L2 L3
section
def top (i : Nat) : Stmt := PySem.Challenge.pw_backlinks_k66_logs_and_chains_written.main.body.getD i (.Pass ⟨0, 0, 0, 0⟩)
abbrev s_is_integer : Stmt := top 7
abbrev s_have_form : Stmt := top 8
abbrev s_least_crossing : Stmt := top 9
abbrev s_is_log : Stmt := top 10
abbrev s_need_log : Stmt := top 11
abbrev s_is_chain_of : Stmt := top 13
abbrev s_need_chain : Stmt := top 14
abbrev s_number_in : Stmt := top 20
abbrev s_numbers_in : Stmt := top 21
abbrev s_log_text : Stmt := top 22
abbrev s_chain_text : Stmt := top 23
abbrev s_show_log : Stmt := top 24
abbrev s_read_log : Stmt := top 25
abbrev s_show_chain : Stmt := top 26
abbrev s_read_chain : Stmt := top 27
abbrev s__law_reel : Stmt := top 29
abbrev s__law_turn : Stmt := top 30
abbrev s__law_grown : Stmt := top 31
abbrev s__law_log_text : Stmt := top 32
abbrev s__law_chain : Stmt := top 37
abbrev s__law_right : Stmt := top 39
abbrev s_law : Stmt := top 40
theorem sc_is_integer : FnScope ["value", "low", "high"] ["value", "low", "high"] (defScope s_is_integer) := ⟨rfl, rfl, rfl, by decide +kernel, rfl, by decide +kernel, by decide +kernel⟩
theorem sc_have_form : FnScope ["value", "entry", "link"] ["value"] (defScope s_have_form) := ⟨rfl, rfl, rfl, by decide +kernel, rfl, by decide +kernel, by decide +kernel⟩
theorem sc_least_crossing : FnScope ["links", "entry", "link", "other"] ["links"] (defScope s_least_crossing) := ⟨rfl, rfl, rfl, by decide +kernel, rfl, by decide +kernel, by decide +kernel⟩
theorem sc_is_log : FnScope ["value"] ["value"] (defScope s_is_log) := ⟨rfl, rfl, rfl, by decide +kernel, rfl, by decide +kernel, by decide +kernel⟩
theorem sc_need_log : FnScope ["value"] ["value"] (defScope s_need_log) := ⟨rfl, rfl, rfl, by decide +kernel, rfl, by decide +kernel, by decide +kernel⟩
theorem sc_is_chain_of : FnScope ["links", "value", "entry", "later"] ["links", "value"] (defScope s_is_chain_of) := ⟨rfl, rfl, rfl, by decide +kernel, rfl, by decide +kernel, by decide +kernel⟩
theorem sc_need_chain : FnScope ["links", "value"] ["links", "value"] (defScope s_need_chain) := ⟨rfl, rfl, rfl, by decide +kernel, rfl, by decide +kernel, by decide +kernel⟩
theorem sc_number_in : FnScope ["word", "most", "sign"] ["word", "most"] (defScope s_number_in) := ⟨rfl, rfl, rfl, by decide +kernel, rfl, by decide +kernel, by decide +kernel⟩
theorem sc_numbers_in : FnScope ["words", "found", "word"] ["words"] (defScope s_numbers_in) := ⟨rfl, rfl, rfl, by decide +kernel, rfl, by decide +kernel, by decide +kernel⟩
theorem sc_log_text : FnScope ["links", "link"] ["links"] (defScope s_log_text) := ⟨rfl, rfl, rfl, by decide +kernel, rfl, by decide +kernel, by decide +kernel⟩
theorem sc_chain_text : FnScope ["chain", "entry"] ["chain"] (defScope s_chain_text) := ⟨rfl, rfl, rfl, by decide +kernel, rfl, by decide +kernel, by decide +kernel⟩
theorem sc_show_log : FnScope ["links"] ["links"] (defScope s_show_log) := ⟨rfl, rfl, rfl, by decide +kernel, rfl, by decide +kernel, by decide +kernel⟩
theorem sc_read_log : FnScope ["text", "links"] ["text"] (defScope s_read_log) := ⟨rfl, rfl, rfl, by decide +kernel, rfl, by decide +kernel, by decide +kernel⟩
theorem sc_show_chain : FnScope ["links", "chain"] ["links", "chain"] (defScope s_show_chain) := ⟨rfl, rfl, rfl, by decide +kernel, rfl, by decide +kernel, by decide +kernel⟩
theorem sc_read_chain : FnScope ["links", "text", "chain"] ["links", "text"] (defScope s_read_chain) := ⟨rfl, rfl, rfl, by decide +kernel, rfl, by decide +kernel, by decide +kernel⟩
theorem sc__law_reel : FnScope ["script", "k", "cell"] ["script", "k"] (defScope s__law_reel) := ⟨rfl, rfl, rfl, by decide +kernel, rfl, by decide +kernel, by decide +kernel⟩
theorem sc__law_turn : FnScope ["reel", "size", "found", "mixed"] ["reel", "size"] (defScope s__law_turn) := ⟨rfl, rfl, rfl, by decide +kernel, rfl, by decide +kernel, by decide +kernel⟩
theorem sc__law_grown : FnScope ["reel", "size", "style", "found", "some", "entry", "many", "low", "high", "rare", "at"] ["reel", "size"] (defScope s__law_grown) := ⟨rfl, rfl, rfl, by decide +kernel, rfl, by decide +kernel, by decide +kernel⟩
theorem sc__law_log_text : FnScope ["links", "link"] ["links"] (defScope s__law_log_text) := ⟨rfl, rfl, rfl, by decide +kernel, rfl, by decide +kernel, by decide +kernel⟩
theorem sc__law_chain : FnScope ["reel", "links", "most", "found", "style", "turn", "here"] ["reel", "links", "most"] (defScope s__law_chain) := ⟨rfl, rfl, rfl, by decide +kernel, rfl, by decide +kernel, by decide +kernel⟩
theorem sc__law_right : FnScope ["links", "chain", "kept", "texts", "again", "told", "entry"] ["links", "chain"] (defScope s__law_right) := ⟨rfl, rfl, rfl, by decide +kernel, rfl, by decide +kernel, by decide +kernel⟩
theorem sc_law : FnScope ["script", "k", "reel", "turn", "size", "links", "chain", "entry"] ["script"] (defScope s_law) := ⟨rfl, rfl, rfl, by decide +kernel, rfl, by decide +kernel, by decide +kernel⟩
/-- the facts of the module -/
structure Mo (K : PySem.W.Frag) (mg : Str → Option Value) (ad : Str → Addr) : Prop where
  b_all : mg "all" = none
  b_bool : mg "bool" = none
  b_enumerate : mg "enumerate" = none
  b_int : mg "int" = none
  b_isinstance : mg "isinstance" = none
  b_len : mg "len" = none
  b_list : mg "list" = none
  b_max : mg "max" = none
  b_min : mg "min" = none
  b_range : mg "range" = none
  b_repr : mg "repr" = none
  b_str : mg "str" = none
  b_zip : mg "zip" = none
  g_MOST_ENTRIES : ∃ t, mg "MOST_ENTRIES" = some (.int 150 t)
  g_NO_LINKS : ∃ t, mg "NO_LINKS" = some (.str "-" t)
  g_ARROW : ∃ t, mg "ARROW" = some (.str ">" t)
  g_DIGITS : ∃ t, mg "DIGITS" = some (.str "0123456789" t)
  g_MOST_DIGITS : ∃ t, mg "MOST_DIGITS" = some (.int 3 t)
  f_is_integer : mg "is_integer" = some (.ref (ad "is_integer"))
  f_have_form : mg "have_form" = some (.ref (ad "have_form"))
  f_least_crossing : mg "least_crossing" = some (.ref (ad "least_crossing"))
  f_is_log : mg "is_log" = some (.ref (ad "is_log"))
  f_need_log : mg "need_log" = some (.ref (ad "need_log"))
  f_is_chain_of : mg "is_chain_of" = some (.ref (ad "is_chain_of"))
  f_need_chain : mg "need_chain" = some (.ref (ad "need_chain"))
  f_number_in : mg "number_in" = some (.ref (ad "number_in"))
  f_numbers_in : mg "numbers_in" = some (.ref (ad "numbers_in"))
  f_log_text : mg "log_text" = some (.ref (ad "log_text"))
  f_chain_text : mg "chain_text" = some (.ref (ad "chain_text"))
  f_show_log : mg "show_log" = some (.ref (ad "show_log"))
  f_read_log : mg "read_log" = some (.ref (ad "read_log"))
  f_show_chain : mg "show_chain" = some (.ref (ad "show_chain"))
  f_read_chain : mg "read_chain" = some (.ref (ad "read_chain"))
  f__law_reel : mg "_law_reel" = some (.ref (ad "_law_reel"))
  f__law_turn : mg "_law_turn" = some (.ref (ad "_law_turn"))
  f__law_grown : mg "_law_grown" = some (.ref (ad "_law_grown"))
  f__law_log_text : mg "_law_log_text" = some (.ref (ad "_law_log_text"))
  f__law_chain : mg "_law_chain" = some (.ref (ad "_law_chain"))
  f__law_right : mg "_law_right" = some (.ref (ad "_law_right"))
  f_law : mg "law" = some (.ref (ad "law"))
  d_is_integer : ∃ fd, FnP K "is_integer" s_is_integer (ad "is_integer") fd
  d_have_form : ∃ fd, FnP K "have_form" s_have_form (ad "have_form") fd
  d_least_crossing : ∃ fd, FnP K "least_crossing" s_least_crossing (ad "least_crossing") fd
  d_is_log : ∃ fd, FnP K "is_log" s_is_log (ad "is_log") fd
  d_need_log : ∃ fd, FnP K "need_log" s_need_log (ad "need_log") fd
  d_is_chain_of : ∃ fd, FnP K "is_chain_of" s_is_chain_of (ad "is_chain_of") fd
  d_need_chain : ∃ fd, FnP K "need_chain" s_need_chain (ad "need_chain") fd
  d_number_in : ∃ fd, FnP K "number_in" s_number_in (ad "number_in") fd
  d_numbers_in : ∃ fd, FnP K "numbers_in" s_numbers_in (ad "numbers_in") fd
  d_log_text : ∃ fd, FnP K "log_text" s_log_text (ad "log_text") fd
  d_chain_text : ∃ fd, FnP K "chain_text" s_chain_text (ad "chain_text") fd
  d_show_log : ∃ fd, FnP K "show_log" s_show_log (ad "show_log") fd
  d_read_log : ∃ fd, FnP K "read_log" s_read_log (ad "read_log") fd
  d_show_chain : ∃ fd, FnP K "show_chain" s_show_chain (ad "show_chain") fd
  d_read_chain : ∃ fd, FnP K "read_chain" s_read_chain (ad "read_chain") fd
  d__law_reel : ∃ fd, FnP K "_law_reel" s__law_reel (ad "_law_reel") fd
  d__law_turn : ∃ fd, FnP K "_law_turn" s__law_turn (ad "_law_turn") fd
  d__law_grown : ∃ fd, FnP K "_law_grown" s__law_grown (ad "_law_grown") fd
  d__law_log_text : ∃ fd, FnP K "_law_log_text" s__law_log_text (ad "_law_log_text") fd
  d__law_chain : ∃ fd, FnP K "_law_chain" s__law_chain (ad "_law_chain") fd
  d__law_right : ∃ fd, FnP K "_law_right" s__law_right (ad "_law_right") fd
  d_law : ∃ fd, FnP K "law" s_law (ad "law") fd
variable {P : Program} {w : World} {K : PySem.W.Frag} {mg : Str → Option Value} {base : Heap} {ad : Str → Addr} {cls : Str → Value}
theorem F_is_integer (M : Mo K mg ad) : Cal P w K mg base (ad "is_integer") 1 ["value", "low", "high"] cls [] sp_is_integer := by
  obtain ⟨fd, FD⟩ := M.d_is_integer
  exact calD (k := 0) (t := t_is_integer) FD (FD.bindsN fun _ _ _ _ _ _ us hl => match us, hl with | [_, _, _], _ => rfl) sc_is_integer len_is_integer (by decide) (by decide)
    (fun cdv A outer s H vs E as gd hr tk => (db_one (ds_ret (dv_and (do_isi (T := "int") (by decide) (dv 0) M.b_isinstance M.b_int PyProof.Rows.boot_int) (dv_and (dv_not (do_isi (T := "bool") (by decide) (dv 0) M.b_isinstance M.b_bool PyProof.Rows.boot_bool)) (dv_one (do_chain opLe opLe (dv 1) (dv 0) (dv 2))))))))
    pure_is_integer
theorem F_have_form (M : Mo K mg ad) : Cal P w K mg base (ad "have_form") 2 ["value"] cls [] sp_have_form := by
  obtain ⟨fd, FD⟩ := M.d_have_form
  exact calD (k := 1) (t := t_have_form) FD (FD.bindsN fun _ _ _ _ _ _ us hl => match us, hl with | [_], _ => rfl) sc_have_form len_have_form (by decide) (by decide)
    (fun cdv A outer s H vs E as gd hr tk => (db_cons (ds_if (dw_or (dt_not (dt_val (do_isi (T := "list") (by decide) (dv 0) M.b_isinstance M.b_list PyProof.Rows.boot_list))) (dw_or1 (dt_not (dt_chain opLe opLe di (do_len M.b_len (da_cons (dv 0) da_nil)) (dgI M.g_MOST_ENTRIES))))).pt (db_one (ds_ret db)) db_nil) (db_one (ds_ret (do_all rfl M.b_all (da_cons (do_lc rfl sc_have_form.nd [("entry", 1), ("link", 2)] (di_enum M.b_enumerate (da_cons (dv 0) da_nil)) (blkOk_by rfl) (fun _ _ _ _ _ => (pg_tup rfl (ng_cons sc_have_form.nd (ng_cons sc_have_form.nd ng_nil)).run)) (fun _ _ _ _ _ => dts_nil) (fun _ _ _ _ _ => (do_callC ms_is_integer (F_is_integer M) (hr.mono (by decide)) gd takes0 mono_is_integer (da_cons (dv 2) (da_cons di (da_cons (do_max2 rfl M.b_max (da_cons di (da_cons (do_sub (dv 1) di) da_nil))) da_nil))) M.f_is_integer))) da_nil))))))
    pure_have_form
theorem F_least_crossing (M : Mo K mg ad) : Cal P w K mg base (ad "least_crossing") 1 ["links"] cls [] sp_least_crossing := by
  obtain ⟨fd, FD⟩ := M.d_least_crossing
  exact calD (k := 0) (t := t_least_crossing) FD (FD.bindsN fun _ _ _ _ _ _ us hl => match us, hl with | [_], _ => rfl) sc_least_crossing len_least_crossing (by decide) (by decide)
    (fun cdv A outer s H vs E as gd hr tk => (db_cons (ds_for (passes_of rfl) rfl (di_enum M.b_enumerate (da_cons (dv 0) da_nil)) (pg_tup rfl (ng_cons sc_least_crossing.nd (ng_cons sc_least_crossing.nd ng_nil)).run) (db_one (ds_for (passes_of rfl) rfl (di_rng2 M.b_range (da_cons (do_add (dv 1) di) (da_cons (do_len M.b_len (da_cons (dv 0) da_nil)) da_nil))) (pg_name sc_least_crossing.nd rfl (Or.inl rfl)) (db_one (ds_if (dt_chain opLt opLt (dv 2) (do_ix (dv 0) (dv 3)) (dv 1)) (db_one (ds_ret (do_tup (da_cons (dv 1) (da_cons (dv 3) da_nil))))) db_nil))))) (db_one (ds_ret dn))))
    pure_least_crossing
theorem F_is_log (M : Mo K mg ad) : Cal P w K mg base (ad "is_log") 3 ["value"] cls [] sp_is_log := by
  obtain ⟨fd, FD⟩ := M.d_is_log
  exact calD (k := 2) (t := t_is_log) FD (FD.bindsN fun _ _ _ _ _ _ us hl => match us, hl with | [_], _ => rfl) sc_is_log len_is_log (by decide) (by decide)
    (fun cdv A outer s H vs E as gd hr tk => (db_one (ds_ret (dv_and (do_callC ms_have_form (F_have_form M) (hr.mono (by decide)) gd tk mono_have_form (da_cons (dv 0) da_nil) M.f_have_form) (dv_one (do_is (do_callC ms_least_crossing (F_least_crossing M) (hr.mono (by decide)) gd tk mono_least_crossing (da_cons (dv 0) da_nil) M.f_least_crossing) dn))))))
    pure_is_log
theorem F_need_log (M : Mo K mg ad) : Cal P w K mg base (ad "need_log") 4 ["value"] cls [] sp_need_log := by
  obtain ⟨fd, FD⟩ := M.d_need_log
  exact calD (k := 3) (t := t_need_log) FD (FD.bindsN fun _ _ _ _ _ _ us hl => match us, hl with | [_], _ => rfl) sc_need_log len_need_log (by decide) (by decide)
    (fun cdv A outer s H vs E as gd hr tk => (db_one (ds_if (dt_not (dt_val (do_callC ms_is_log (F_is_log M) (hr.mono (by decide)) gd tk mono_is_log (da_cons (dv 0) da_nil) M.f_is_log))) (db_one ds_dead) db_nil)))
    pure_need_log
theorem F_is_chain_of (M : Mo K mg ad) : Cal P w K mg base (ad "is_chain_of") 2 ["links", "value"] cls [] sp_is_chain_of := by
  obtain ⟨fd, FD⟩ := M.d_is_chain_of
  exact calD (k := 1) (t := t_is_chain_of) FD (FD.bindsN fun _ _ _ _ _ _ us hl => match us, hl with | [_, _], _ => rfl) sc_is_chain_of len_is_chain_of (by decide) (by decide)
    (fun cdv A outer s H vs E as gd hr tk => (db_cons (ds_if (dw_or (dt_not (dt_val (do_isi (T := "list") (by decide) (dv 1) M.b_isinstance M.b_list PyProof.Rows.boot_list))) (dw_or1 (dt_eq hr (dv 1) (do_lst da_nil)))).pt (db_one (ds_ret db)) db_nil) (db_cons (ds_if (dt_not (dt_val (do_all rfl M.b_all (da_cons (do_lc rfl sc_is_chain_of.nd [("entry", 2)] (di_lst (dv 1)) (blkOk_by rfl) (fun _ _ _ _ _ => (pg_name sc_is_chain_of.nd rfl (Or.inl rfl))) (fun _ _ _ _ _ => dts_nil) (fun _ _ _ _ _ => (do_callC ms_is_integer (F_is_integer M) (hr.mono (by decide)) gd takes0 mono_is_integer (da_cons (dv 2) (da_cons di (da_cons (do_sub (do_len M.b_len (da_cons (dv 0) da_nil)) di) da_nil))) M.f_is_integer))) da_nil)))) (db_one (ds_ret db)) db_nil) (db_one (ds_ret (do_all rfl M.b_all (da_cons (do_lc rfl sc_is_chain_of.nd [("entry", 2), ("later", 3)] (di_zip M.b_zip (da_cons (dv 1) (da_cons (do_sl (dv 1) (dp_part di) dp_no) da_nil))) (blkOk_by rfl) (fun _ _ _ _ _ => (pg_tup rfl (ng_cons sc_is_chain_of.nd (ng_cons sc_is_chain_of.nd ng_nil)).run)) (fun _ _ _ _ _ => dts_nil) (fun _ _ _ _ _ => (dv_and (do_in (dv 3) (do_tup (da_cons (do_sub (dv 2) di) (da_cons (do_ix (dv 0) (dv 2)) da_nil)))) (dv_one (do_lt (dv 3) (dv 2)))))) da_nil)))))))
    pure_is_chain_of
theorem F_need_chain (M : Mo K mg ad) : Cal P w K mg base (ad "need_chain") 3 ["links", "value"] cls [] sp_need_chain := by
  obtain ⟨fd, FD⟩ := M.d_need_chain
  exact calD (k := 2) (t := t_need_chain) FD (FD.bindsN fun _ _ _ _ _ _ us hl => match us, hl with | [_, _], _ => rfl) sc_need_chain len_need_chain (by decide) (by decide)
    (fun cdv A outer s H vs E as gd hr tk => (db_one (ds_if (dt_not (dt_val (do_callC ms_is_chain_of (F_is_chain_of M) (hr.mono (by decide)) gd tk mono_is_chain_of (da_cons (dv 0) (da_cons (dv 1) da_nil)) M.f_is_chain_of))) (db_one ds_dead) db_nil)))
    pure_need_chain
theorem F_number_in (M : Mo K mg ad) : Cal P w K mg base (ad "number_in") 1 ["word", "most"] cls [] sp_number_in := by
  obtain ⟨fd, FD⟩ := M.d_number_in
  exact calD (k := 0) (t := t_number_in) FD (FD.bindsN fun _ _ _ _ _ _ us hl => match us, hl with | [_, _], _ => rfl) sc_number_in len_number_in (by decide) (by decide)
    (fun cdv A outer s H vs E as gd hr tk => (db_cons (ds_if (dw_or (dt_not (dt_chain opLe opLe di (do_len M.b_len (da_cons (dv 0) da_nil)) (dv 1))) (dw_or1 (dt_not (dt_val (do_all rfl M.b_all (da_cons (do_lc rfl sc_number_in.nd [("sign", 2)] (di_str (dv 0)) (blkOk_by rfl) (fun _ _ _ _ _ => (pg_name sc_number_in.nd rfl (Or.inl rfl))) (fun _ _ _ _ _ => dts_nil) (fun _ _ _ _ _ => (do_in (dv 2) (dgS M.g_DIGITS)))) da_nil)))))).pt (db_one (ds_ret dn)) db_nil) (db_one (ds_ret (do_if (dw_and (dt_eq hr (do_ix (dv 0) di) ds) (dw_and1 (dt_gt (do_len M.b_len (da_cons (dv 0) da_nil)) di))).pt dn (do_int M.b_int (da_cons (dv 0) da_nil)))))))
    pure_number_in
theorem F_numbers_in (M : Mo K mg ad) : Cal P w K mg base (ad "numbers_in") 2 ["words"] cls [] sp_numbers_in := by
  obtain ⟨fd, FD⟩ := M.d_numbers_in
  exact calD (k := 1) (t := t_numbers_in) FD (FD.bindsN fun _ _ _ _ _ _ us hl => match us, hl with | [_], _ => rfl) sc_numbers_in len_numbers_in (by decide) (by decide)
    (fun cdv A outer s H vs E as gd hr tk => (db_cons (ds_setLc rfl sc_numbers_in.nd [("word", 2)] (di_lst (dv 0)) (blkOk_by rfl) (fun _ _ _ _ _ => (pg_name sc_numbers_in.nd rfl (Or.inl rfl))) (fun _ _ _ _ _ => dts_nil) (fun _ _ _ _ _ => (do_callC ms_number_in (F_number_in M) (hr.mono (by decide)) gd takes0 mono_number_in (da_cons (dv 2) (da_cons (dgI M.g_MOST_DIGITS) da_nil)) M.f_number_in)) (sw_true rfl rfl rfl rfl)) (db_one (ds_ret (do_if (dt_in dn (dv 1)) dn (dv 1))))))
    pure_numbers_in
theorem F_log_text (M : Mo K mg ad) : Cal P w K mg base (ad "log_text") 1 ["links"] cls [] sp_log_text := by
  obtain ⟨fd, FD⟩ := M.d_log_text
  exact calD (k := 0) (t := t_log_text) FD (FD.bindsN fun _ _ _ _ _ _ us hl => match us, hl with | [_], _ => rfl) sc_log_text len_log_text (by decide) (by decide)
    (fun cdv A outer s H vs E as gd hr tk => (db_one (ds_ret (do_if (dt_gt (do_len M.b_len (da_cons (dv 0) da_nil)) di) (do_join ds (do_lc rfl sc_log_text.nd [("link", 1)] (di_lst (do_sl (dv 0) (dp_part di) dp_no)) (blkOk_by rfl) (fun _ _ _ _ _ => (pg_name sc_log_text.nd rfl (Or.inl rfl))) (fun _ _ _ _ _ => dts_nil) (fun _ _ _ _ _ => (do_str M.b_str (da_cons (dv 1) da_nil))))) (dgS M.g_NO_LINKS)))))
    pure_log_text
theorem F_chain_text (M : Mo K mg ad) : Cal P w K mg base (ad "chain_text") 1 ["chain"] cls [] sp_chain_text := by
  obtain ⟨fd, FD⟩ := M.d_chain_text
  exact calD (k := 0) (t := t_chain_text) FD (FD.bindsN fun _ _ _ _ _ _ us hl => match us, hl with | [_], _ => rfl) sc_chain_text len_chain_text (by decide) (by decide)
    (fun cdv A outer s H vs E as gd hr tk => (db_one (ds_ret (do_join (dgS M.g_ARROW) (do_lc rfl sc_chain_text.nd [("entry", 1)] (di_lst (dv 0)) (blkOk_by rfl) (fun _ _ _ _ _ => (pg_name sc_chain_text.nd rfl (Or.inl rfl))) (fun _ _ _ _ _ => dts_nil) (fun _ _ _ _ _ => (do_str M.b_str (da_cons (dv 1) da_nil))))))))
    pure_chain_text
theorem F_show_log (M : Mo K mg ad) : Cal P w K mg base (ad "show_log") 5 ["links"] cls [] sp_show_log := by
  obtain ⟨fd, FD⟩ := M.d_show_log
  exact calD (k := 4) (t := t_show_log) FD (FD.bindsN fun _ _ _ _ _ _ us hl => match us, hl with | [_], _ => rfl) sc_show_log len_show_log (by decide) (by decide)
    (fun cdv A outer s H vs E as gd hr tk => (db_cons (ds_expr (do_callC ms_need_log (F_need_log M) (hr.mono (by decide)) gd tk mono_need_log (da_cons (dv 0) da_nil) M.f_need_log)) (db_one (ds_ret (do_callC ms_log_text (F_log_text M) (hr.mono (by decide)) gd tk mono_log_text (da_cons (dv 0) da_nil) M.f_log_text)))))
    pure_show_log
theorem F_read_log (M : Mo K mg ad) : Cal P w K mg base (ad "read_log") 4 ["text"] cls [] sp_read_log := by
  obtain ⟨fd, FD⟩ := M.d_read_log
  exact calD (k := 3) (t := t_read_log) FD (FD.bindsN fun _ _ _ _ _ _ us hl => match us, hl with | [_], _ => rfl) sc_read_log len_read_log (by decide) (by decide)
    (fun cdv A outer s H vs E as gd hr tk => (db_cons (ds_if (dt_eq hr (dv 0) (dgS M.g_NO_LINKS)) (db_one (ds_ret (do_lst (da_cons di da_nil)))) db_nil) (db_cons (ds_set sc_read_log.nd (do_if (dt_val (do_isi (T := "str") (by decide) (dv 0) M.b_isinstance M.b_str PyProof.Rows.boot_str)) (do_callC ms_numbers_in (F_numbers_in M) (hr.mono (by decide)) gd tk mono_numbers_in (da_cons (do_split (dv 0) ds) da_nil) M.f_numbers_in) dn)) (db_cons (ds_if (dw_or (dt_is (dv 1) dn) (dw_or1 (dt_not (dt_val (do_callC ms_is_log (F_is_log M) (hr.mono (by decide)) gd tk mono_is_log (da_cons (do_add (do_lst (da_cons di da_nil)) (dv 1)) da_nil) M.f_is_log))))).pt (db_one ds_dead) db_nil) (db_one (ds_ret (do_add (do_lst (da_cons di da_nil)) (dv 1))))))))
    pure_read_log
theorem F_show_chain (M : Mo K mg ad) : Cal P w K mg base (ad "show_chain") 5 ["links", "chain"] cls [] sp_show_chain := by
  obtain ⟨fd, FD⟩ := M.d_show_chain
  exact calD (k := 4) (t := t_show_chain) FD (FD.bindsN fun _ _ _ _ _ _ us hl => match us, hl with | [_, _], _ => rfl) sc_show_chain len_show_chain (by decide) (by decide)
    (fun cdv A outer s H vs E as gd hr tk => (db_cons (ds_expr (do_callC ms_need_log (F_need_log M) (hr.mono (by decide)) gd tk mono_need_log (da_cons (dv 0) da_nil) M.f_need_log)) (db_cons (ds_expr (do_callC ms_need_chain (F_need_chain M) (hr.mono (by decide)) gd tk mono_need_chain (da_cons (dv 0) (da_cons (dv 1) da_nil)) M.f_need_chain)) (db_one (ds_ret (do_callC ms_chain_text (F_chain_text M) (hr.mono (by decide)) gd tk mono_chain_text (da_cons (dv 1) da_nil) M.f_chain_text))))))
    pure_show_chain
theorem F_read_chain (M : Mo K mg ad) : Cal P w K mg base (ad "read_chain") 5 ["links", "text"] cls [] sp_read_chain := by
  obtain ⟨fd, FD⟩ := M.d_read_chain
  exact calD (k := 4) (t := t_read_chain) FD (FD.bindsN fun _ _ _ _ _ _ us hl => match us, hl with | [_, _], _ => rfl) sc_read_chain len_read_chain (by decide) (by decide)
    (fun cdv A outer s H vs E as gd hr tk => (db_cons (ds_expr (do_callC ms_need_log (F_need_log M) (hr.mono (by decide)) gd tk mono_need_log (da_cons (dv 0) da_nil) M.f_need_log)) (db_cons (ds_set sc_read_chain.nd (do_if (dt_val (do_isi (T := "str") (by decide) (dv 1) M.b_isinstance M.b_str PyProof.Rows.boot_str)) (do_callC ms_numbers_in (F_numbers_in M) (hr.mono (by decide)) gd tk mono_numbers_in (da_cons (do_split (dv 1) (dgS M.g_ARROW)) da_nil) M.f_numbers_in) dn)) (db_cons (ds_if (dw_or (dt_is (dv 2) dn) (dw_or1 (dt_not (dt_val (do_callC ms_is_chain_of (F_is_chain_of M) (hr.mono (by decide)) gd tk mono_is_chain_of (da_cons (dv 0) (da_cons (dv 2) da_nil)) M.f_is_chain_of))))).pt (db_one ds_dead) db_nil) (db_one (ds_ret (dv 2)))))))
    pure_read_chain
theorem F__law_reel (M : Mo K mg ad) : Cal P w K mg base (ad "_law_reel") 1 ["script", "k"] cls [] sp__law_reel := by
  obtain ⟨fd, FD⟩ := M.d__law_reel
  exact calD (k := 0) (t := t__law_reel) FD (FD.bindsN fun _ _ _ _ _ _ us hl => match us, hl with | [_, _], _ => rfl) sc__law_reel len__law_reel (by decide) (by decide)
    (fun cdv A outer s H vs E as gd hr tk => (db_cons (ds_set sc__law_reel.nd di) (db_cons (ds_if (dt_lt (dv 1) (do_len M.b_len (da_cons (dv 0) da_nil))) (db_one (ds_set sc__law_reel.nd (do_ix (dv 0) (dv 1)))) db_nil) (db_one (ds_ret (do_lst (da_cons (do_max2 rfl M.b_max (da_cons di (da_cons (do_sub (dv 2) (do_pow di di)) da_nil))) (da_cons (do_add (do_add (do_mul (do_mod (dv 2) (do_add (do_pow di di) di)) di) (do_mul di (dv 1))) di) (da_cons di da_nil)))))))))
    pure__law_reel
theorem F__law_turn (M : Mo K mg ad) : Cal P w K mg base (ad "_law_turn") 1 ["reel", "size"] cls [0] sp__law_turn := by
  obtain ⟨fd, FD⟩ := M.d__law_turn
  exact calD (k := 0) (t := t__law_turn) FD (FD.bindsN fun _ _ _ _ _ _ us hl => match us, hl with | [_, _], _ => rfl) sc__law_turn len__law_turn (by decide) (by decide)
    (fun cdv A outer s H vs E as gd hr tk => (db_cons (ds_if (dt_gt (do_ix (dv 0) di) di) (db_cons (ds_set sc__law_turn.nd (do_mod (do_ix (dv 0) di) (dv 1))) (db_cons (ds_sub (do_fdiv (do_ix (dv 0) di) (dv 1)) di) (db_one (ds_ret (dv 2))))) db_nil) (db_cons (ds_sub (do_add (do_ix (dv 0) di) di) di) (db_cons (ds_set sc__law_turn.nd (do_mod (do_pow (do_add (do_ix (dv 0) di) (do_mul di (do_ix (dv 0) di))) di) (do_add (do_pow di di) di))) (db_cons (ds_set sc__law_turn.nd (do_mod (do_add (do_mul (dv 3) (dv 3)) (do_mul di (do_ix (dv 0) di))) (do_add (do_pow di di) di))) (db_one (ds_ret (do_mod (do_fdiv (dv 3) di) (dv 1)))))))))
    pure__law_turn
theorem F__law_grown (M : Mo K mg ad) : Cal P w K mg base (ad "_law_grown") 2 ["reel", "size"] cls [0] sp__law_grown := by
  obtain ⟨fd, FD⟩ := M.d__law_grown
  exact calD (k := 1) (t := t__law_grown) FD (FD.bindsN fun _ _ _ _ _ _ us hl => match us, hl with | [_, _], _ => rfl) sc__law_grown len__law_grown (by decide) (by decide)
    (fun cdv A outer s H vs E as gd hr tk => (db_cons (ds_par3 rfl sc__law_grown.nd (da_cons (do_callC ms__law_turn (F__law_turn M) (hr.mono (by decide)) gd tk mono__law_turn (da_cons (dv 0) (da_cons di da_nil)) M.f__law_turn) (da_cons (do_lst (da_cons di da_nil)) (da_cons (do_lst (da_cons di da_nil)) da_nil)))) (db_cons (ds_for (passes_of rfl) rfl (di_rng2 M.b_range (da_cons di (da_cons (dv 1) da_nil))) (pg_name sc__law_grown.nd rfl (Or.inl rfl)) (db_cons (ds_set sc__law_grown.nd (do_len M.b_len (da_cons (dv 4) da_nil))) (db_cons (ds_par2 rfl sc__law_grown.nd (da_cons (do_callC ms__law_turn (F__law_turn M) (hr.mono (by decide)) gd tk mono__law_turn (da_cons (dv 0) (da_cons (do_min2 rfl M.b_min (da_cons di (da_cons (dv 6) da_nil))) da_nil)) M.f__law_turn) (da_cons (do_sub (do_sub (dv 6) di) (do_callC ms__law_turn (F__law_turn M) (hr.mono (by decide)) gd tk mono__law_turn (da_cons (dv 0) (da_cons (do_min2 rfl M.b_min (da_cons di (da_cons (dv 6) da_nil))) da_nil)) M.f__law_turn)) da_nil))) (db_cons (ds_set sc__law_grown.nd (do_if (dt_eq hr (do_callC ms__law_turn (F__law_turn M) (hr.mono (by decide)) gd tk mono__law_turn (da_cons (dv 0) (da_cons di da_nil)) M.f__law_turn) di) (do_callC ms__law_turn (F__law_turn M) (hr.mono (by decide)) gd tk mono__law_turn (da_cons (dv 0) (da_cons (dv 6) da_nil)) M.f__law_turn) (do_sub (dv 6) di))) (db_cons (ds_set sc__law_grown.nd (do_ix (do_lst (da_cons (do_callC ms__law_turn (F__law_turn M) (hr.mono (by decide)) gd tk mono__law_turn (da_cons (dv 0) (da_cons (dv 6) da_nil)) M.f__law_turn) (da_cons (dv 7) (da_cons (dv 8) (da_cons (dv 9) (da_cons (do_fdiv (dv 6) di) (da_cons (do_callC ms__law_turn (F__law_turn M) (hr.mono (by decide)) gd tk mono__law_turn (da_cons (dv 0) (da_cons (dv 6) da_nil)) M.f__law_turn) da_nil))))))) (dv 2))) (db_cons (ds_expr (do_mut mt_append ok_app mono_app PySem.F.slot_list_append PySem.F.type_list_append (da_cons (do_ix (dv 4) (dv 10)) da_nil))) (db_one (ds_set sc__law_grown.nd (do_add (do_sl (dv 4) dp_no (dp_part (do_add (dv 10) di))) (do_lst (da_cons (dv 5) da_nil))))))))))) (db_one (ds_ret (dv 3))))))
    pure__law_grown
theorem F__law_log_text (M : Mo K mg ad) : Cal P w K mg base (ad "_law_log_text") 1 ["links"] cls [] sp__law_log_text := by
  obtain ⟨fd, FD⟩ := M.d__law_log_text
  exact calD (k := 0) (t := t__law_log_text) FD (FD.bindsN fun _ _ _ _ _ _ us hl => match us, hl with | [_], _ => rfl) sc__law_log_text len__law_log_text (by decide) (by decide)
    (fun cdv A outer s H vs E as gd hr tk => (db_one (ds_ret (do_if (dt_gt (do_len M.b_len (da_cons (dv 0) da_nil)) di) (do_join ds (do_lc rfl sc__law_log_text.nd [("link", 1)] (di_lst (do_sl (dv 0) (dp_part di) dp_no)) (blkOk_by rfl) (fun _ _ _ _ _ => (pg_name sc__law_log_text.nd rfl (Or.inl rfl))) (fun _ _ _ _ _ => dts_nil) (fun _ _ _ _ _ => (do_str M.b_str (da_cons (dv 1) da_nil))))) ds))))
    pure__law_log_text
theorem F__law_chain (M : Mo K mg ad) : Cal P w K mg base (ad "_law_chain") 2 ["reel", "links", "most"] cls [0] sp__law_chain := by
  obtain ⟨fd, FD⟩ := M.d__law_chain
  exact calD (k := 1) (t := t__law_chain) FD (FD.bindsN fun _ _ _ _ _ _ us hl => match us, hl with | [_, _, _], _ => rfl) sc__law_chain len__law_chain (by decide) (by decide)
    (fun cdv A outer s H vs E as gd hr tk => (db_cons (ds_set sc__law_chain.nd (do_lst (da_cons (do_callC ms__law_turn (F__law_turn M) (hr.mono (by decide)) gd tk mono__law_turn (da_cons (dv 0) (da_cons (do_len M.b_len (da_cons (dv 1) da_nil)) da_nil)) M.f__law_turn) da_nil))) (db_cons (ds_set sc__law_chain.nd (do_callC ms__law_turn (F__law_turn M) (hr.mono (by decide)) gd tk mono__law_turn (da_cons (dv 0) (da_cons di da_nil)) M.f__law_turn)) (db_cons (ds_for (passes_of rfl) rfl (di_rng1 M.b_range (da_cons (do_callC ms__law_turn (F__law_turn M) (hr.mono (by decide)) gd tk mono__law_turn (da_cons (dv 0) (da_cons (dv 2) da_nil)) M.f__law_turn) da_nil)) (pg_name sc__law_chain.nd rfl (Or.inl rfl)) (db_cons (ds_set sc__law_chain.nd (do_ix (dv 3) (do_neg di))) (db_cons (ds_if (dt_eq hr (dv 6) di) (db_one (ds_ret (dv 3))) db_nil) (db_one (ds_expr (do_mut mt_append ok_app mono_app PySem.F.slot_list_append PySem.F.type_list_append (da_cons (do_ix (do_lst (da_cons (do_ix (dv 1) (dv 6)) (da_cons (do_sub (dv 6) di) (da_cons (do_ix (do_lst (da_cons (do_ix (dv 1) (dv 6)) (da_cons (do_sub (dv 6) di) da_nil))) (do_callC ms__law_turn (F__law_turn M) (hr.mono (by decide)) gd tk mono__law_turn (da_cons (dv 0) (da_cons di da_nil)) M.f__law_turn)) da_nil)))) (dv 4)) da_nil))))))) (db_one (ds_ret (dv 3)))))))
    pure__law_chain
theorem F__law_right (M : Mo K mg ad) : Cal P w K mg base (ad "_law_right") 6 ["links", "chain"] cls [] sp__law_right := by
  obtain ⟨fd, FD⟩ := M.d__law_right
  exact calD (k := 5) (t := t__law_right) FD (FD.bindsN fun _ _ _ _ _ _ us hl => match us, hl with | [_, _], _ => rfl) sc__law_right len__law_right (by decide) (by decide)
    (fun cdv A outer s H vs E as gd hr tk => (db_cons (ds_set sc__law_right.nd (do_reprL hr gd M.b_repr (da_cons (dv 0) (da_cons (dv 1) da_nil)))) (db_cons (ds_set sc__law_right.nd (do_lst (da_cons (do_callC ms__law_log_text (F__law_log_text M) (hr.mono (by decide)) gd tk mono__law_log_text (da_cons (dv 0) da_nil) M.f__law_log_text) (da_cons (do_join ds (do_lc rfl sc__law_right.nd [("entry", 6)] (di_lst (dv 1)) (blkOk_by rfl) (fun _ _ _ _ _ => (pg_name sc__law_right.nd rfl (Or.inl rfl))) (fun _ _ _ _ _ => dts_nil) (fun _ _ _ _ _ => (do_str M.b_str (da_cons (dv 6) da_nil))))) da_nil)))) (db_cons (ds_for (passes_of rfl) rfl (di_rng1 M.b_range (da_cons di da_nil)) (pg_name sc__law_right.nd rfl (Or.inl rfl)) (db_cons (ds_if (dw_or (dt_ne hr (do_lst (da_cons (do_callC ms_show_log (F_show_log M) (hr.mono (by decide)) gd tk mono_show_log (da_cons (dv 0) da_nil) M.f_show_log) (da_cons (do_callC ms_show_chain (F_show_chain M) (hr.mono (by decide)) gd tk mono_show_chain (da_cons (dv 0) (da_cons (dv 1) da_nil)) M.f_show_chain) da_nil))) (dv 3)) (dw_or1 (dt_ne hr (do_reprL hr gd M.b_repr (da_cons (dv 0) (da_cons (dv 1) da_nil))) (dv 2)))).pt (db_one (ds_ret db)) db_nil) (db_told (of_decide_eq_true rfl) (fun h => ps_set sc__law_right.nd rfl (Or.inl rfl) (pe_lst h)) (da_cons (do_callC ms_read_log (F_read_log M) (hr.mono (by decide)) gd tk mono_read_log (da_cons (do_ix (dv 3) di) da_nil) M.f_read_log) (da_cons (do_callC ms_read_chain (F_read_chain M) (hr.mono (by decide)) gd tk mono_read_chain (da_cons (dv 0) (da_cons (do_ix (dv 3) di) da_nil)) M.f_read_chain) da_nil)) (ps_if (pt_cmpR op_ne (pe_callB (call_reprD hr gd) rfl M.b_repr PyProof.Rows.boot_repr (pa_cons (pe_var rfl (Or.inl rfl)) pa_nil)) (pe_var rfl (Or.inl rfl)) (nomark _)) (pss_one (ps_ret pe_bl)) pss_nil) (ps_expr (pe_bm PySem.F.plainAttrs_list PySem.F.slot_list_append PySem.F.type_list_append mt_append (pe_ix ix_list (pe_var rfl (Or.inl rfl)) pe_int (fun _ _ => rfl)) (pa_cons pe_int pa_nil))) (ps_expr (pe_bm0 PySem.F.plainAttrs_list PySem.F.slot_list_reverse PySem.F.type_list_reverse mt_reverse (pe_ix ix_list (pe_var rfl (Or.inl rfl)) pe_int (fun _ _ => rfl)))) (ps_expr (pe_bm PySem.F.plainAttrs_list PySem.F.slot_list_append PySem.F.type_list_append mt_append (pe_ix ix_list (pe_var rfl (Or.inl rfl)) pe_int (fun _ _ => rfl)) (pa_cons (pe_un un_neg pe_int) pa_nil)))))) (db_one (ds_ret (do_eq hr (do_reprL hr gd M.b_repr (da_cons (dv 0) (da_cons (dv 1) da_nil))) (dv 2))))))))
    pure__law_right
theorem F_law (M : Mo K mg ad) : Cal P w K mg base (ad "law") 7 ["script"] cls [] sp_law := by
  obtain ⟨fd, FD⟩ := M.d_law
  exact calD (k := 6) (t := t_law) FD (FD.bindsN fun _ _ _ _ _ _ us hl => match us, hl with | [_], _ => rfl) sc_law len_law (by decide) (by decide)
    (fun cdv A outer s H vs E as gd hr tk => (db_cons (ds_for (passes_of rfl) rfl (di_rng1 M.b_range (da_cons (do_max2 rfl M.b_max (da_cons di (da_cons (do_min2 rfl M.b_min (da_cons di (da_cons (do_add (do_len M.b_len (da_cons (dv 0) da_nil)) di) da_nil))) da_nil))) da_nil)) (pg_name sc_law.nd rfl (Or.inl rfl)) (db_cons (ds_set sc_law.nd (do_callC ms__law_reel (F__law_reel M) (hr.mono (by decide)) gd tk mono__law_reel (da_cons (dv 0) (da_cons (dv 1) da_nil)) M.f__law_reel)) (db_one (ds_for (passes_of rfl) rfl (di_rng1 M.b_range (da_cons di da_nil)) (pg_name sc_law.nd rfl (Or.inl rfl)) (db_cons (ds_set sc_law.nd (do_add di (do_callC ms__law_turn (F__law_turn M) (hr.mono (by decide)) gd tk mono__law_turn (da_cons (dv 2) (da_cons (do_ix (do_lst (da_cons di (da_cons di (da_cons (do_ix (do_lst (da_cons di (da_cons di da_nil))) (do_int M.b_int (da_cons (do_eq hr (dv 1) di) da_nil))) da_nil)))) (do_callC ms__law_turn (F__law_turn M) (hr.mono (by decide)) gd tk mono__law_turn (da_cons (dv 2) (da_cons di da_nil)) M.f__law_turn)) da_nil)) M.f__law_turn))) (db_cons (ds_set sc_law.nd (do_callC ms__law_grown (F__law_grown M) (hr.mono (by decide)) gd tk mono__law_grown (da_cons (dv 2) (da_cons (dv 4) da_nil)) M.f__law_grown)) (db_cons (ds_set sc_law.nd (do_callC ms__law_chain (F__law_chain M) (hr.mono (by decide)) gd tk mono__law_chain (da_cons (dv 2) (da_cons (dv 5) (da_cons (do_add di (dv 4)) da_nil))) M.f__law_chain)) (db_cons (ds_if (dt_not (dt_val (do_callC ms__law_right (F__law_right M) (hr.mono (by decide)) gd tk mono__law_right (da_cons (dv 5) (da_cons (dv 6) da_nil)) M.f__law_right))) (db_one (ds_ret db)) db_nil) (db_one (ds_if (dt_gt (dv 4) di) (db_cons (ds_expr (do_mut0 mt_pop ok_pop mono_pop PySem.F.slot_list_pop PySem.F.type_list_pop)) (db_cons (ds_all (do_lcO rfl sc_law.nd [("entry", 7)] 6 7 (blkOk_by rfl) (fun _ _ _ _ _ => (pg_name sc_law.nd rfl (Or.inl rfl))) (fun _ _ _ _ _ => (dts_one (dt_lt (dv 7) (do_sub (dv 4) di)))) (fun _ _ _ _ _ => (dv 7)))) (db_cons (ds_set sc_law.nd (do_if (dt_ne hr (dv 6) (do_lst da_nil)) (dv 6) (do_lst (da_cons di da_nil)))) (db_one (ds_if (dt_not (dt_val (do_callC ms__law_right (F__law_right M) (hr.mono (by decide)) gd tk mono__law_right (da_cons (dv 5) (da_cons (dv 6) da_nil)) M.f__law_right))) (db_one (ds_ret db)) db_nil))))) db_nil)))))))))) (db_one (ds_ret (dv_and (do_eq hr (do_callC ms_read_log (F_read_log M) (hr.mono (by decide)) gd tk mono_read_log (da_cons ds da_nil) M.f_read_log) (do_lst (da_cons di da_nil))) (dv_and (do_eq hr (do_callC ms_read_log (F_read_log M) (hr.mono (by decide)) gd tk mono_read_log (da_cons ds da_nil) M.f_read_log) (do_lst (da_cons di (da_cons di da_nil)))) (dv_one (do_eq hr (do_callC ms_read_chain (F_read_chain M) (hr.mono (by decide)) gd tk mono_read_chain (da_cons (do_lst (da_cons di da_nil)) (da_cons ds da_nil)) M.f_read_chain) (do_lst (da_cons di da_nil))))))))))
    pure_law
theorem L_law (M : Mo K mg ad) : ∃ fd : FuncData, (∀ (s : Shared) (v : Value), BindsTo s fd ⟨[v], []⟩ [("script", v)]) ∧ ∀ base : Heap, FnG P w K mg base (L2.CX P w) 7 (ad "law") fd ["script"] (liftSp K cls [] sp_law) := by
  obtain ⟨fd, FD⟩ := M.d_law
  have b := FunD.bindsA (ps := ["script"]) FD fun _ _ _ _ _ _ us hl => match us, hl with | [_], _ => rfl
  refine ⟨fd, fun s v => b s [v] rfl, fun base => ?_⟩
  exact calF (k := 6) (t := t_law) FD sc_law len_law (by decide) (by decide)
    (fun cdv A outer s H vs E as gd hr tk => (db_cons (ds_for (passes_of rfl) rfl (di_rng1 M.b_range (da_cons (do_max2 rfl M.b_max (da_cons di (da_cons (do_min2 rfl M.b_min (da_cons di (da_cons (do_add (do_len M.b_len (da_cons (dv 0) da_nil)) di) da_nil))) da_nil))) da_nil)) (pg_name sc_law.nd rfl (Or.inl rfl)) (db_cons (ds_set sc_law.nd (do_callC ms__law_reel (F__law_reel M) (hr.mono (by decide)) gd tk mono__law_reel (da_cons (dv 0) (da_cons (dv 1) da_nil)) M.f__law_reel)) (db_one (ds_for (passes_of rfl) rfl (di_rng1 M.b_range (da_cons di da_nil)) (pg_name sc_law.nd rfl (Or.inl rfl)) (db_cons (ds_set sc_law.nd (do_add di (do_callC ms__law_turn (F__law_turn M) (hr.mono (by decide)) gd tk mono__law_turn (da_cons (dv 2) (da_cons (do_ix (do_lst (da_cons di (da_cons di (da_cons (do_ix (do_lst (da_cons di (da_cons di da_nil))) (do_int M.b_int (da_cons (do_eq hr (dv 1) di) da_nil))) da_nil)))) (do_callC ms__law_turn (F__law_turn M) (hr.mono (by decide)) gd tk mono__law_turn (da_cons (dv 2) (da_cons di da_nil)) M.f__law_turn)) da_nil)) M.f__law_turn))) (db_cons (ds_set sc_law.nd (do_callC ms__law_grown (F__law_grown M) (hr.mono (by decide)) gd tk mono__law_grown (da_cons (dv 2) (da_cons (dv 4) da_nil)) M.f__law_grown)) (db_cons (ds_set sc_law.nd (do_callC ms__law_chain (F__law_chain M) (hr.mono (by decide)) gd tk mono__law_chain (da_cons (dv 2) (da_cons (dv 5) (da_cons (do_add di (dv 4)) da_nil))) M.f__law_chain)) (db_cons (ds_if (dt_not (dt_val (do_callC ms__law_right (F__law_right M) (hr.mono (by decide)) gd tk mono__law_right (da_cons (dv 5) (da_cons (dv 6) da_nil)) M.f__law_right))) (db_one (ds_ret db)) db_nil) (db_one (ds_if (dt_gt (dv 4) di) (db_cons (ds_expr (do_mut0 mt_pop ok_pop mono_pop PySem.F.slot_list_pop PySem.F.type_list_pop)) (db_cons (ds_all (do_lcO rfl sc_law.nd [("entry", 7)] 6 7 (blkOk_by rfl) (fun _ _ _ _ _ => (pg_name sc_law.nd rfl (Or.inl rfl))) (fun _ _ _ _ _ => (dts_one (dt_lt (dv 7) (do_sub (dv 4) di)))) (fun _ _ _ _ _ => (dv 7)))) (db_cons (ds_set sc_law.nd (do_if (dt_ne hr (dv 6) (do_lst da_nil)) (dv 6) (do_lst (da_cons di da_nil)))) (db_one (ds_if (dt_not (dt_val (do_callC ms__law_right (F__law_right M) (hr.mono (by decide)) gd tk mono__law_right (da_cons (dv 5) (da_cons (dv 6) da_nil)) M.f__law_right))) (db_one (ds_ret db)) db_nil))))) db_nil)))))))))) (db_one (ds_ret (dv_and (do_eq hr (do_callC ms_read_log (F_read_log M) (hr.mono (by decide)) gd tk mono_read_log (da_cons ds da_nil) M.f_read_log) (do_lst (da_cons di da_nil))) (dv_and (do_eq hr (do_callC ms_read_log (F_read_log M) (hr.mono (by decide)) gd tk mono_read_log (da_cons ds da_nil) M.f_read_log) (do_lst (da_cons di (da_cons di da_nil)))) (dv_one (do_eq hr (do_callC ms_read_chain (F_read_chain M) (hr.mono (by decide)) gd tk mono_read_chain (da_cons (do_lst (da_cons di da_nil)) (da_cons ds da_nil)) M.f_read_chain) (do_lst (da_cons di da_nil))))))))))
    pure_law
end
end T
namespace T
open PySem PySem.Spec PyProof.Rows L2
/-! ### the head -/
namespace Hd
def top (i : Nat) : Stmt := PySem.Challenge.pw_backlinks_k66_logs_and_chains_written.main.body.getD i (.Pass ⟨0, 0, 0, 0⟩)
def d_is_integer : He.DefD := ⟨("is_integer", none), "is_integer", "is_integer", defArgs (top 7), defBody (top 7), defScope (top 7), [], []⟩
def d_have_form : He.DefD := ⟨("have_form", none), "have_form", "have_form", defArgs (top 8), defBody (top 8), defScope (top 8), [], []⟩
def d_least_crossing : He.DefD := ⟨("least_crossing", none), "least_crossing", "least_crossing", defArgs (top 9), defBody (top 9), defScope (top 9), [], []⟩
def d_is_log : He.DefD := ⟨("is_log", none), "is_log", "is_log", defArgs (top 10), defBody (top 10), defScope (top 10), [], []⟩
def d_need_log : He.DefD := ⟨("need_log", none), "need_log", "need_log", defArgs (top 11), defBody (top 11), defScope (top 11), [], []⟩
def d_is_chain_of : He.DefD := ⟨("is_chain_of", none), "is_chain_of", "is_chain_of", defArgs (top 13), defBody (top 13), defScope (top 13), [], []⟩
def d_need_chain : He.DefD := ⟨("need_chain", none), "need_chain", "need_chain", defArgs (top 14), defBody (top 14), defScope (top 14), [], []⟩
def d_number_in : He.DefD := ⟨("number_in", none), "number_in", "number_in", defArgs (top 20), defBody (top 20), defScope (top 20), [], []⟩
def d_numbers_in : He.DefD := ⟨("numbers_in", none), "numbers_in", "numbers_in", defArgs (top 21), defBody (top 21), defScope (top 21), [], []⟩
def d_log_text : He.DefD := ⟨("log_text", none), "log_text", "log_text", defArgs (top 22), defBody (top 22), defScope (top 22), [], []⟩
def d_chain_text : He.DefD := ⟨("chain_text", none), "chain_text", "chain_text", defArgs (top 23), defBody (top 23), defScope (top 23), [], []⟩
def d_show_log : He.DefD := ⟨("show_log", none), "show_log", "show_log", defArgs (top 24), defBody (top 24), defScope (top 24), [], []⟩
def d_read_log : He.DefD := ⟨("read_log", none), "read_log", "read_log", defArgs (top 25), defBody (top 25), defScope (top 25), [], []⟩
def d_show_chain : He.DefD := ⟨("show_chain", none), "show_chain", "show_chain", defArgs (top 26), defBody (top 26), defScope (top 26), [], []⟩
def d_read_chain : He.DefD := ⟨("read_chain", none), "read_chain", "read_chain", defArgs (top 27), defBody (top 27), defScope (top 27), [], []⟩
def d__law_reel : He.DefD := ⟨("_law_reel", none), "_law_reel", "_law_reel", defArgs (top 29), defBody (top 29), defScope (top 29), [], []⟩
def d__law_turn : He.DefD := ⟨("_law_turn", none), "_law_turn", "_law_turn", defArgs (top 30), defBody (top 30), defScope (top 30), [], []⟩
def d__law_grown : He.DefD := ⟨("_law_grown", none), "_law_grown", "_law_grown", defArgs (top 31), defBody (top 31), defScope (top 31), [], []⟩
def d__law_log_text : He.DefD := ⟨("_law_log_text", none), "_law_log_text", "_law_log_text", defArgs (top 32), defBody (top 32), defScope (top 32), [], []⟩
def d__law_chain : He.DefD := ⟨("_law_chain", none), "_law_chain", "_law_chain", defArgs (top 37), defBody (top 37), defScope (top 37), [], []⟩
def d__law_right : He.DefD := ⟨("_law_right", none), "_law_right", "_law_right", defArgs (top 39), defBody (top 39), defScope (top 39), [], []⟩
def d_law : He.DefD := ⟨("law", none), "law", "law", defArgs (top 40), defBody (top 40), defScope (top 40), [], []⟩
def fn : List He.DefD := ([d_is_integer, d_have_form, d_least_crossing, d_is_log, d_need_log, d_is_chain_of, d_need_chain, d_number_in, d_numbers_in, d_log_text, d_chain_text, d_show_log, d_read_log, d_show_chain, d_read_chain, d__law_reel, d__law_turn, d__law_grown, d__law_log_text, d__law_chain] : List He.DefD) ++ ([d__law_right, d_law] : List He.DefD)
def fa : List He.Fa := ([.glo "is_integer", .glo "have_form", .glo "least_crossing", .glo "is_log", .glo "need_log", .glo "is_chain_of", .glo "need_chain", .glo "number_in", .glo "numbers_in", .glo "log_text", .glo "chain_text", .glo "show_log", .glo "read_log", .glo "show_chain", .glo "read_chain", .glo "_law_reel", .glo "_law_turn", .glo "_law_grown", .glo "_law_log_text", .glo "_law_chain"] : List He.Fa) ++ ([.glo "_law_right", .glo "law", .free "all", .free "bool", .free "enumerate", .free "int", .free "isinstance", .free "len", .free "list", .free "max", .free "min", .free "range", .free "repr", .free "str", .free "zip", .int "MOST_ENTRIES" 150, .str "NO_LINKS" "-", .str "ARROW" ">", .str "DIGITS" "0123456789", .int "MOST_DIGITS" 3] : List He.Fa)
def names : List PySem.Str := (["BacklinkError", "InvalidLog", "InvalidChain", "InvalidText", "MOST_ENTRIES", "is_integer", "have_form", "least_crossing", "is_log", "need_log", "is_chain_of", "need_chain", "NO_LINKS", "ARROW", "DIGITS", "MOST_DIGITS", "number_in", "numbers_in", "log_text", "chain_text"] : List PySem.Str) ++ (["show_log", "read_log", "show_chain", "read_chain", "_law_reel", "_law_turn", "_law_grown", "_law_log_text", "_law_number", "_law_log_of", "_law_whole", "_law_is_log", "_law_chain", "_law_is_chain", "_law_right"] : List PySem.Str)
abbrev R : PySem.W.OpenRow := PySem.W.OpenLaw.row PySem.Challenge.rw_backlinks_k66_logs_and_chains_written
abbrev hk : PySem.W.Hook := He.hookD 4 fa fn
def ob (s : PySem.W.SharedT) : He.AlD := He.obsDG 4 fa fn (HandSHeadRun.getT s)
theorem ob_eq (s : PySem.W.SharedT) : ob s = hk.obs s.abs := He.obsDG_eq (HandSHeadRun.getT_eq s)
theorem run (w : World) : HandSHeadRun.RunEq R (PySem.W.view R.prog [40]) hk ob 6000 names w := by
  intro os
  kernel_rfl
end Hd
section
open PySem PySem.Spec PyProof.Rows L2
theorem says {K : PySem.W.Frag} {h : Heap} {mg : PySem.Str → Option Value} (X : K.In h) (G : h.Ns mainGlobals mg) (c : He.SaysD Hd.fa Hd.fn K) : Mo K mg (He.ga K) where
  b_all := He.free_ok X G (c.fact 22 (f := .free "all") rfl)
  b_bool := He.free_ok X G (c.fact 23 (f := .free "bool") rfl)
  b_enumerate := He.free_ok X G (c.fact 24 (f := .free "enumerate") rfl)
  b_int := He.free_ok X G (c.fact 25 (f := .free "int") rfl)
  b_isinstance := He.free_ok X G (c.fact 26 (f := .free "isinstance") rfl)
  b_len := He.free_ok X G (c.fact 27 (f := .free "len") rfl)
  b_list := He.free_ok X G (c.fact 28 (f := .free "list") rfl)
  b_max := He.free_ok X G (c.fact 29 (f := .free "max") rfl)
  b_min := He.free_ok X G (c.fact 30 (f := .free "min") rfl)
  b_range := He.free_ok X G (c.fact 31 (f := .free "range") rfl)
  b_repr := He.free_ok X G (c.fact 32 (f := .free "repr") rfl)
  b_str := He.free_ok X G (c.fact 33 (f := .free "str") rfl)
  b_zip := He.free_ok X G (c.fact 34 (f := .free "zip") rfl)
  g_MOST_ENTRIES := He.int_ok X G (c.fact 35 (f := .int "MOST_ENTRIES" 150) rfl)
  g_NO_LINKS := He.str_ok X G (c.fact 36 (f := .str "NO_LINKS" "-") rfl)
  g_ARROW := He.str_ok X G (c.fact 37 (f := .str "ARROW" ">") rfl)
  g_DIGITS := He.str_ok X G (c.fact 38 (f := .str "DIGITS" "0123456789") rfl)
  g_MOST_DIGITS := He.int_ok X G (c.fact 39 (f := .int "MOST_DIGITS" 3) rfl)
  f_is_integer := He.glo_ok X G (c.fact 0 (f := .glo "is_integer") rfl)
  f_have_form := He.glo_ok X G (c.fact 1 (f := .glo "have_form") rfl)
  f_least_crossing := He.glo_ok X G (c.fact 2 (f := .glo "least_crossing") rfl)
  f_is_log := He.glo_ok X G (c.fact 3 (f := .glo "is_log") rfl)
  f_need_log := He.glo_ok X G (c.fact 4 (f := .glo "need_log") rfl)
  f_is_chain_of := He.glo_ok X G (c.fact 5 (f := .glo "is_chain_of") rfl)
  f_need_chain := He.glo_ok X G (c.fact 6 (f := .glo "need_chain") rfl)
  f_number_in := He.glo_ok X G (c.fact 7 (f := .glo "number_in") rfl)
  f_numbers_in := He.glo_ok X G (c.fact 8 (f := .glo "numbers_in") rfl)
  f_log_text := He.glo_ok X G (c.fact 9 (f := .glo "log_text") rfl)
  f_chain_text := He.glo_ok X G (c.fact 10 (f := .glo "chain_text") rfl)
  f_show_log := He.glo_ok X G (c.fact 11 (f := .glo "show_log") rfl)
  f_read_log := He.glo_ok X G (c.fact 12 (f := .glo "read_log") rfl)
  f_show_chain := He.glo_ok X G (c.fact 13 (f := .glo "show_chain") rfl)
  f_read_chain := He.glo_ok X G (c.fact 14 (f := .glo "read_chain") rfl)
  f__law_reel := He.glo_ok X G (c.fact 15 (f := .glo "_law_reel") rfl)
  f__law_turn := He.glo_ok X G (c.fact 16 (f := .glo "_law_turn") rfl)
  f__law_grown := He.glo_ok X G (c.fact 17 (f := .glo "_law_grown") rfl)
  f__law_log_text := He.glo_ok X G (c.fact 18 (f := .glo "_law_log_text") rfl)
  f__law_chain := He.glo_ok X G (c.fact 19 (f := .glo "_law_chain") rfl)
  f__law_right := He.glo_ok X G (c.fact 20 (f := .glo "_law_right") rfl)
  f_law := He.glo_ok X G (c.fact 21 (f := .glo "law") rfl)
  d_is_integer := c.def_ 0 (d := Hd.d_is_integer) rfl
  d_have_form := c.def_ 1 (d := Hd.d_have_form) rfl
  d_least_crossing := c.def_ 2 (d := Hd.d_least_crossing) rfl
  d_is_log := c.def_ 3 (d := Hd.d_is_log) rfl
  d_need_log := c.def_ 4 (d := Hd.d_need_log) rfl
  d_is_chain_of := c.def_ 5 (d := Hd.d_is_chain_of) rfl
  d_need_chain := c.def_ 6 (d := Hd.d_need_chain) rfl
  d_number_in := c.def_ 7 (d := Hd.d_number_in) rfl
  d_numbers_in := c.def_ 8 (d := Hd.d_numbers_in) rfl
  d_log_text := c.def_ 9 (d := Hd.d_log_text) rfl
  d_chain_text := c.def_ 10 (d := Hd.d_chain_text) rfl
  d_show_log := c.def_ 11 (d := Hd.d_show_log) rfl
  d_read_log := c.def_ 12 (d := Hd.d_read_log) rfl
  d_show_chain := c.def_ 13 (d := Hd.d_show_chain) rfl
  d_read_chain := c.def_ 14 (d := Hd.d_read_chain) rfl
  d__law_reel := c.def_ 15 (d := Hd.d__law_reel) rfl
  d__law_turn := c.def_ 16 (d := Hd.d__law_turn) rfl
  d__law_grown := c.def_ 17 (d := Hd.d__law_grown) rfl
  d__law_log_text := c.def_ 18 (d := Hd.d__law_log_text) rfl
  d__law_chain := c.def_ 19 (d := Hd.d__law_chain) rfl
  d__law_right := c.def_ 20 (d := Hd.d__law_right) rfl
  d_law := c.def_ 21 (d := Hd.d_law) rfl
end
end T

open PySem PySem.W PySem.Calls PyProof.Rows
theorem PySem.Challenge.cw_backlinks_k66_logs_and_chains_written_holds : PySem.Challenge.rw_backlinks_k66_logs_and_chains_written.Holds := by
  w_on; o_law
  refine HandSHeadRun.head_any (r := OpenLaw.row PySem.Challenge.rw_backlinks_k66_logs_and_chains_written) (q := view (OpenLaw.row PySem.Challenge.rw_backlinks_k66_logs_and_chains_written).prog [40]) (H := T.Hd.hk) (ob := T.Hd.ob) (M := 6000) (loose := T.Hd.names) (d := HandSHeadRun.topDef (OpenLaw.row PySem.Challenge.rw_backlinks_k66_logs_and_chains_written).prog 40) (kwd := []) T.Hd.ob_eq
    (by kernel_rfl) (fun s => by kernel_rfl) T.Hd.run (by kernel_rfl) (by kernel_rfl) (by kernel_rfl) (by rfl) (by first | assumption | decide +kernel) (by decide +kernel) ⟨rfl, rfl, rfl, rfl, rfl, by decide +kernel⟩ ?hw ?hc
  case hw => w_witness2
  case hc =>
    refine L3.walk_ofEG (l := PySem.Challenge.rw_backlinks_k66_logs_and_chains_written) (n := 63) (k := 7) (x := "script") (CX := fun w => L2.CX (PySem.Challenge.rw_backlinks_k66_logs_and_chains_written).prog w) rfl (by decide) (by kernel_rfl) ⟨rfl, by decide, by decide⟩ ?F (fun _ _ _ _ _ z => L3.cx_top z)
    intro w mg fa h Y G hmg0
    obtain ⟨K, KX, c⟩ := Y
    have hmg : mg ("law" : PySem.Str) = some (.ref fa) := by
      have e : (HandSHeadRun.topDef (OpenLaw.row PySem.Challenge.rw_backlinks_k66_logs_and_chains_written).prog 40).name = ("law" : PySem.Str) := by kernel_rfl
      rw [← e]
      exact hmg0
    have M : T.Mo K mg (He.ga K) := T.says KX G c
    have ef : fa = He.ga K "law" := by
      have z := hmg.symm.trans M.f_law
      cases z
      rfl
    obtain ⟨fd, hb, hF⟩ := T.L_law (P := (PySem.Challenge.rw_backlinks_k66_logs_and_chains_written).prog) (w := w) (cls := fun _ => Value.none) M
    refine ⟨K, fd, L3.liftSp K (fun _ => Value.none) [] T.sp_law, KX, hb, fun H a ns hl _ hS => L3.sp_top hS fun Q E z => ⟨ns, rfl, z⟩, fun base _ _ => ?_⟩
    rw [ef]
    exact hF base
