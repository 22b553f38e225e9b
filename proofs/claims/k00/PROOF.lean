import PyProof.Rows.All
import HandS.ForMost
import HandS.ForExc
import HandS.Wide
import HandS.WideBits
import HandS.IsInst
import HandS.SortInts
import HandS.Style
import HandS.ExcSuper
import KE.KSuper
import HandS.ExcIs
import HandS.TryMany
import KE.KExcIs
import HandS.ExcValue
import PySem.Challenge.RW_gridhall_k00_errors_stand_apart
set_option Elab.async false
set_option linter.all false
set_option maxRecDepth 100000
/-! V1: data D, what stands for it in the abstract heap (Rp, with its footprint), the state of a body (SI), what an expression may change (Step), what a value that waits is (TOK). -/
namespace VL
open PySem PySem.Spec PyProof.Rows L2
variable {K : PySem.W.Frag}
inductive D where
  | non | bl (b : Bool) | int (i : Int) | str (s : Str) | lst (l : List D) | tup (l : List D) | scr (l : List Int) | obj (C : Addr) (fs : List (Str × D)) | exc (n : String) (fs : List (Str × V))
  deriving Inhabited
abbrev Env := List (Option D)
structure Exn where
  cls : String
  fs : List (Str × V)
inductive Rs (α : Type) where
  | ok (a : α)
  | ex (x : Exn)
/-- an exception that is a value: its class at C, its dict -/
def exO (a C : Addr) (dd : Option Addr) : HO := .ext fun h => ∃ (o : Obj) (vs : Array Value), h.get? a = some o ∧ o.cls = .ref C ∧ o.dict = dd ∧ o.data = .fields vs
def XdAt (H : Hp) : Option Addr → List (Str × V) → Prop
  | none, fs => fs = []
  | some d, fs => H d = some (.xd fs)
mutual
inductive Rp (K : PySem.W.Frag) (H : Hp) : V → D → List Addr → Prop
  | non : Rp K H .non .non []
  | bl (b : Bool) : Rp K H (.bl b) (.bl b) []
  | int (i : Int) : Rp K H (.int i) (.int i) []
  | str (x : Str) : Rp K H (.str x) (.str x) []
  | lst {a : Addr} {xs : List V} {ds : List D} {F : List Addr} : H a = some (.lst xs) → xs.length ≤ sizeLine → RpL K H xs ds F → Rp K H (.ref a) (.lst ds) (a :: F)
  | scr {a : Addr} {ns : List Int} {F : List Addr} : SqL K H a (ns.map V.int) → ns.length ≤ sizeLine → (∀ b ∈ F, ∃ o, H b = some o) → (∀ H' : Hp, (∀ b ∈ F, ∀ o, H b = some o → H' b = some o) → SqL K H' a (ns.map V.int)) → Rp K H (.ref a) (.scr ns) F
  | tup {a : Addr} {xs : List V} {ds : List D} {F : List Addr} : H a = some (.tup xs) → xs.length ≤ sizeLine → RpL K H xs ds F → Rp K H (.ref a) (.tup ds) (a :: F)
  | obj {a C dx : Addr} {fs : List (Str × V)} {ds : List (Str × D)} {F : List Addr} : H a = some (.ins C dx fs) → fs.map (·.1) = ds.map (·.1) → RpL K H (fs.map (·.2)) (ds.map (·.2)) F → Rp K H (.ref a) (.obj C ds) (a :: F)
  | exc {a C : Addr} {n : String} {dd : Option Addr} {fs : List (Str × V)} : H a = some (exO a C dd) → PySem.W.nsIn K mainGlobals (Str.ofString n) = some (some (.ref C)) → XdAt H dd fs → Rp K H (.ref a) (.exc n fs) (a :: dd.toList)
inductive RpL (K : PySem.W.Frag) (H : Hp) : List V → List D → List Addr → Prop
  | nil : RpL K H [] [] []
  | cons {v : V} {d : D} {F : List Addr} {vs : List V} {ds : List D} {G : List Addr} : Rp K H v d F → RpL K H vs ds G → RpL K H (v :: vs) (d :: ds) (F ++ G)
end
theorem Rd.keepAt {H H' : Hp} {a : Addr} {u : HO} (r : Rd H a u) (k : ∀ o, H a = some o → H' a = some o) : Rd H' a u := by
  rcases r with r | ⟨o, r⟩
  · exact .inl (k _ r)
  · exact .inr ⟨o, k _ r⟩
theorem XdAt.keep {H H' : Hp} {dd : Option Addr} {fs : List (Str × V)} (x : XdAt H dd fs) (k : ∀ b ∈ dd.toList, ∀ o, H b = some o → H' b = some o) : XdAt H' dd fs := by
  cases dd with
  | none => exact x
  | some d => exact k d (by simp) _ x
theorem XdAt.there {H : Hp} {dd : Option Addr} {fs : List (Str × V)} (x : XdAt H dd fs) : ∀ b ∈ dd.toList, ∃ o, H b = some o := by
  cases dd with
  | none => simp
  | some d =>
    intro b hb
    have : b = d := by simpa using hb
    subst this
    exact ⟨_, x⟩
mutual
theorem Rp.keep {H H' : Hp} : ∀ {v : V} {d : D} {F : List Addr}, Rp K H v d F → (∀ b ∈ F, ∀ o, H b = some o → H' b = some o) → Rp K H' v d F
  | _, _, _, .non, _ => .non
  | _, _, _, .bl b, _ => .bl b
  | _, _, _, .int i, _ => .int i
  | _, _, _, .str x, _ => .str x
  | _, _, _, .scr r z m q, k => .scr (q _ k) z (fun b hb => let ⟨o, e⟩ := m b hb; ⟨o, k b hb o e⟩) fun H2 k2 => q H2 fun b hb o e => k2 b hb o (k b hb o e)
  | _, _, _, .lst r z l, k => .lst (k _ List.mem_cons_self _ r) z (RpL.keep l fun b hb => k b (List.mem_cons_of_mem _ hb))
  | _, _, _, .tup r z l, k => .tup (k _ List.mem_cons_self _ r) z (RpL.keep l fun b hb => k b (List.mem_cons_of_mem _ hb))
  | _, _, _, .obj r z l, k => .obj (k _ List.mem_cons_self _ r) z (RpL.keep l fun b hb => k b (List.mem_cons_of_mem _ hb))
  | _, _, _, .exc r g x, k => .exc (k _ List.mem_cons_self _ r) g (x.keep fun b hb => k b (List.mem_cons_of_mem _ hb))
theorem RpL.keep {H H' : Hp} : ∀ {v : List V} {d : List D} {F : List Addr}, RpL K H v d F → (∀ b ∈ F, ∀ o, H b = some o → H' b = some o) → RpL K H' v d F
  | _, _, _, .nil, _ => .nil
  | _, _, _, .cons h t, k => .cons (Rp.keep h fun b hb => k b (List.mem_append_left _ hb)) (RpL.keep t fun b hb => k b (List.mem_append_right _ hb))
end
theorem Rd.there {H : Hp} {a : Addr} {u : HO} (r : Rd H a u) : ∃ o, H a = some o := by
  rcases r with r | ⟨o, r⟩
  · exact ⟨_, r⟩
  · exact ⟨_, r⟩
mutual
theorem Rp.there {H : Hp} : ∀ {v : V} {d : D} {F : List Addr}, Rp K H v d F → ∀ b ∈ F, ∃ o, H b = some o
  | _, _, _, .non, b, hb => nomatch hb
  | _, _, _, .bl _, b, hb => nomatch hb
  | _, _, _, .int _, b, hb => nomatch hb
  | _, _, _, .str _, b, hb => nomatch hb
  | _, _, _, .scr _ _ m _, b, hb => m b hb
  | _, _, _, .lst r _ l, b, hb => by
    rcases List.mem_cons.mp hb with e | hb
    · subst e; exact ⟨_, r⟩
    · exact RpL.there l b hb
  | _, _, _, .tup r _ l, b, hb => by
    rcases List.mem_cons.mp hb with e | hb
    · subst e; exact ⟨_, r⟩
    · exact RpL.there l b hb
  | _, _, _, .obj r _ l, b, hb => by
    rcases List.mem_cons.mp hb with e | hb
    · subst e; exact ⟨_, r⟩
    · exact RpL.there l b hb
  | _, _, _, .exc r _ x, b, hb => by
    rcases List.mem_cons.mp hb with e | hb
    · subst e; exact ⟨_, r⟩
    · exact x.there b hb
theorem RpL.there {H : Hp} : ∀ {v : List V} {d : List D} {F : List Addr}, RpL K H v d F → ∀ b ∈ F, ∃ o, H b = some o
  | _, _, _, .nil, b, hb => nomatch hb
  | _, _, _, .cons h t, b, hb => by
    rcases List.mem_append.mp hb with hb | hb
    · exact Rp.there h b hb
    · exact RpL.there t b hb
end
theorem RpL.length {H : Hp} : ∀ {v : List V} {d : List D} {F : List Addr}, RpL K H v d F → v.length = d.length
  | _, _, _, .nil => rfl
  | _, _, _, .cons _ t => by simp [RpL.length t]
/-- an item of a list -/
theorem RpL.get {H : Hp} : ∀ {vs : List V} {ds : List D} {F : List Addr} {i : Nat} {d : D}, RpL K H vs ds F → ds[i]? = some d → ∃ v G, vs[i]? = some v ∧ Rp K H v d G ∧ List.Sublist G F
  | _, _, _, _, _, .nil, e => by simp at e
  | _, _, _, 0, _, .cons h t, e => by
    simp at e; subst e
    exact ⟨_, _, rfl, h, List.sublist_append_left _ _⟩
  | _, _, _, i + 1, d, .cons h t, e => by
    obtain ⟨v, G, e1, r, s⟩ := RpL.get (i := i) t (by simpa using e)
    exact ⟨v, G, by simpa using e1, r, s.trans (List.sublist_append_right _ _)⟩
theorem RpL.append {H : Hp} : ∀ {vs : List V} {ds : List D} {F : List Addr} {ws : List V} {es : List D} {G : List Addr}, RpL K H vs ds F → RpL K H ws es G → RpL K H (vs ++ ws) (ds ++ es) (F ++ G)
  | _, _, _, _, _, _, .nil, s => s
  | _, _, _, _, _, _, .cons h t, s => by
    rw [List.append_assoc]
    exact .cons h (RpL.append t s)
theorem RpL.split {H : Hp} : ∀ {vs : List V} {ds es : List D} {F : List Addr}, RpL K H vs (ds ++ es) F → ∃ vs1 vs2 F1 F2, vs = vs1 ++ vs2 ∧ F = F1 ++ F2 ∧ RpL K H vs1 ds F1 ∧ RpL K H vs2 es F2
  | vs, [], es, F, h => ⟨[], vs, [], F, rfl, rfl, .nil, h⟩
  | _, d :: ds, es, _, .cons h t => by
    obtain ⟨vs1, vs2, F1, F2, rfl, rfl, a, b⟩ := RpL.split (ds := ds) t
    exact ⟨_, _, _, F2, rfl, (List.append_assoc _ _ _).symm, .cons h a, b⟩
theorem RpL.ints {H : Hp} : ∀ (ns : List Int), RpL K H (ns.map V.int) (ns.map D.int) []
  | [] => .nil
  | n :: ns => .cons (F := []) (.int n) (RpL.ints ns)
theorem RpL.ints_inv {H : Hp} : ∀ {vs : List V} {ns : List Int} {F : List Addr}, RpL K H vs (ns.map D.int) F → vs = ns.map V.int ∧ F = []
  | _, [], _, .nil => ⟨rfl, rfl⟩
  | _, n :: ns, _, .cons h t => by
    obtain ⟨e1, e2⟩ := RpL.ints_inv t
    cases h
    exact ⟨by rw [e1]; rfl, by rw [e2]; rfl⟩
/-- what may be written: a list, an instance; a tuple stands for itself; an exception, its dict -/
def Live (H : Hp) (b : Addr) : Prop := (∃ xs, H b = some (.lst xs)) ∨ (∃ xs, H b = some (.tup xs)) ∨ (∃ C dx fs, H b = some (.ins C dx fs)) ∨ (∃ φ, H b = some (.ext φ)) ∨ ∃ fs, H b = some (.xd fs)
theorem Live.keep {H H' : Hp} {b : Addr} (l : Live H b) (k : ∀ o, H b = some o → H' b = some o) : Live H' b := by
  rcases l with ⟨xs, e⟩ | ⟨xs, e⟩ | ⟨C, dx, fs, e⟩ | ⟨φ, e⟩ | ⟨fs, e⟩
  · exact .inl ⟨xs, k _ e⟩
  · exact .inr (.inl ⟨xs, k _ e⟩)
  · exact .inr (.inr (.inl ⟨C, dx, fs, k _ e⟩))
  · exact .inr (.inr (.inr (.inl ⟨φ, k _ e⟩)))
  · exact .inr (.inr (.inr (.inr ⟨fs, k _ e⟩)))
theorem Live.there {H : Hp} {b : Addr} (l : Live H b) : ∃ o, H b = some o := by
  rcases l with ⟨xs, e⟩ | ⟨xs, e⟩ | ⟨C, dx, fs, e⟩ | ⟨φ, e⟩ | ⟨fs, e⟩ <;> exact ⟨_, e⟩
theorem Live.rdL {H : Hp} {b : Addr} {xs : List V} (l : Live H b) (r : Rd H b (.lst xs)) : H b = some (.lst xs) := by
  rcases r with r | ⟨o, r⟩
  · exact r
  · rcases l with ⟨xs, e⟩ | ⟨xs, e⟩ | ⟨C, dx, fs, e⟩ | ⟨φ, e⟩ | ⟨fs, e⟩ <;> (rw [r] at e; cases e)
/-- the part of a footprint that a slot owns: 0 nothing, 1 its root, 2 and 3 all -/
def reg (n : Nat) (F : List Addr) : List Addr := if n = 0 then [] else if n = 1 then F.take 1 else F
theorem reg_sub {n : Nat} {F : List Addr} : ∀ b ∈ reg n F, b ∈ F := fun b hb => by
  unfold reg at hb
  split at hb
  · cases hb
  · split at hb
    · exact List.mem_of_mem_take hb
    · exact hb
theorem reg2 {n : Nat} {F : List Addr} (h : 2 ≤ n) : reg n F = F := by
  unfold reg
  rw [if_neg (by omega), if_neg (by omega)]
theorem reg1 {n : Nat} {a : Addr} {F : List Addr} (h : 1 ≤ n) : a ∈ reg n (a :: F) := by
  unfold reg
  rw [if_neg (by omega)]
  split
  · simp
  · simp
/-- what is fixed through a def's body: the heap at its entry, the addresses of the parameters that it changes, those of its other arguments, its way out by an exception -/
structure Cz where
  H0 : Hp
  M : List Addr
  Mi : Nat → List Addr
  Vi : Nat → V
  B : List Addr
  E : XK
  ca : String → Addr
  K : PySem.W.Frag
/-- how an owned address came: made since the entry; of a parameter that is handed back changed (flag 3) also from M -/
def Orig (P : Cz) (i n : Nat) (b : Addr) : Prop := P.H0 b = none ∨ (n = 3 ∧ b ∈ P.Mi i ∧ b ∈ P.M)
structure OwnAt (P : Cz) (H : Hp) (Fs : List (List Addr)) (i n : Nat) (F : List Addr) : Prop where
  nd : 2 ≤ n → F.Nodup
  rt : n = 1 → ∀ a G, F = a :: G → a ∉ G
  pt : ∀ b ∈ reg n F, Orig P i n b ∧ Live H b ∧ ∀ j G, j ≠ i → Fs[j]? = some G → b ∉ G
  bas : n ≠ 3 → ∀ b ∈ F, P.H0 b = none ∨ b ∈ P.B
/-- the state of a body: σ, H stand for env; fl: what each slot owns; Fs: the footprints -/
structure SI (P : Cz) (fl : List Nat) (σ : L2.St) (env : Env) (H : Hp) (Fs : List (List Addr)) : Prop where
  l1 : σ.length = env.length
  l2 : fl.length = env.length
  l3 : Fs.length = env.length
  rep : ∀ (i : Nat) (d : D), env[i]? = some (some d) → ∃ (v : V) (F : List Addr), σ[i]? = some (some v) ∧ Fs[i]? = some F ∧ Rp P.K H v d F
  nul : ∀ (i : Nat), env[i]? = some none → Fs[i]? = some []
  own : ∀ (i n : Nat) (F : List Addr), fl[i]? = some n → Fs[i]? = some F → OwnAt P H Fs i n F
  frm : ∀ b o, P.H0 b = some o → b ∉ P.M → H b = some o
  mm : ∀ b ∈ P.M, ∃ o, H b = some o
  vi : ∀ (i : Nat), fl[i]? = some 3 → σ[i]? = some (some (P.Vi i))
theorem SI.new {P : Cz} {fl : List Nat} {σ : L2.St} {env : Env} {H : Hp} {Fs : List (List Addr)} (S : SI P fl σ env H Fs) {b : Addr} (e : H b = none) : P.H0 b = none := by
  cases q : P.H0 b with
  | none => rfl
  | some o =>
    by_cases hb : b ∈ P.M
    · obtain ⟨o', h⟩ := S.mm b hb
      rw [e] at h; cases h
    · have h := S.frm b o q hb
      rw [e] at h; cases h
theorem SI.fp {P : Cz} {fl : List Nat} {σ : L2.St} {env : Env} {H : Hp} {Fs : List (List Addr)} (S : SI P fl σ env H Fs) {i : Nat} {F : List Addr} (e : Fs[i]? = some F) : ∀ b ∈ F, ∃ o, H b = some o := by
  have hi : i < env.length := by
    have h := (List.getElem?_eq_some_iff.mp e).1
    rw [S.l3] at h; exact h
  cases h : env[i] with
  | none =>
    have h1 := S.nul i (by rw [List.getElem?_eq_getElem hi, h])
    rw [e] at h1; cases h1
    intro b hb; cases hb
  | some d =>
    obtain ⟨v, G, _, e2, r⟩ := S.rep i d (by rw [List.getElem?_eq_getElem hi, h])
    rw [e] at e2; cases e2
    exact r.there
/-- what may change while an expression is reckoned: the slots that own all of theirs, but those of lv -/
def Free (fl : List Nat) (lv : List Nat) (i : Nat) : Prop := ∃ n, fl[i]? = some n ∧ 2 ≤ n ∧ i ∉ lv
structure Step (lv : List Nat) (fl : List Nat) (H : Hp) (Fs : List (List Addr)) (H' : Hp) (Fs' : List (List Addr)) : Prop where
  keep : ∀ b o, H b = some o → (∀ i F, Free fl lv i → Fs[i]? = some F → b ∉ F) → H' b = some o
  same : ∀ i, ¬ Free fl lv i → Fs'[i]? = Fs[i]?
  new : ∀ i F', Fs'[i]? = some F' → ∀ b ∈ F', (∃ j F, Fs[j]? = some F ∧ b ∈ F ∧ (j = i ∨ Free fl lv j)) ∨ H b = none
  there : ∀ b o, H b = some o → ∃ o', H' b = some o'
theorem Step.refl {lv fl : List Nat} {H : Hp} {Fs : List (List Addr)} : Step lv fl H Fs H Fs :=
  ⟨fun _ _ e _ => e, fun _ _ => rfl, fun i F' e b hb => .inl ⟨i, F', e, hb, .inl rfl⟩, fun b o e => ⟨o, e⟩⟩
/-- a step that only lays new things -/
theorem Step.grow {lv fl : List Nat} {H H' : Hp} {Fs : List (List Addr)} (k : ∀ b o, H b = some o → H' b = some o) : Step lv fl H Fs H' Fs :=
  ⟨fun b o e _ => k b o e, fun _ _ => rfl, fun i F' e b hb => .inl ⟨i, F', e, hb, .inl rfl⟩, fun b o e => ⟨o, k b o e⟩⟩
/-- the flags of a later state: what owns all there owned all before -/
def SubF (fl' fl : List Nat) : Prop := ∀ (i n : Nat), fl'[i]? = some n → (2 ≤ n → fl[i]? = some n) ∧ (n = 1 → ∃ m, fl[i]? = some m ∧ 1 ≤ m)
theorem SubF.refl {fl : List Nat} : SubF fl fl := fun _ _ e => ⟨fun _ => e, fun z => ⟨_, e, by omega⟩⟩
theorem SubF.trans {a b c : List Nat} (x : SubF a b) (y : SubF b c) : SubF a c := fun i n e => ⟨fun h => (y i n ((x i n e).1 h)).1 h, fun h => by
  obtain ⟨m, em, hm⟩ := (x i n e).2 h
  by_cases h2 : 2 ≤ m
  · exact ⟨m, (y i m em).1 h2, hm⟩
  · exact (y i m em).2 (by omega)⟩
theorem Free.sub {fl fl' lv : List Nat} {i : Nat} (s : SubF fl' fl) (f : Free fl' lv i) : Free fl lv i := by
  obtain ⟨n, e, h, q⟩ := f
  exact ⟨n, (s i n e).1 h, h, q⟩
theorem Free.lv {fl lv lv' : List Nat} {i : Nat} (s : ∀ j ∈ lv, j ∈ lv') (f : Free fl lv' i) : Free fl lv i := by
  obtain ⟨n, e, h, q⟩ := f
  exact ⟨n, e, h, fun z => q (s i z)⟩
theorem Step.trans {lv lv' fl fl' : List Nat} {H H1 H2 : Hp} {Fs Fs1 Fs2 : List (List Addr)} (a : Step lv fl H Fs H1 Fs1) (b : Step lv' fl' H1 Fs1 H2 Fs2) (sf : SubF fl' fl) (sl : ∀ j ∈ lv, j ∈ lv') : Step lv fl H Fs H2 Fs2 := by
  have fr : ∀ {i}, Free fl' lv' i → Free fl lv i := fun f => Free.lv sl (Free.sub sf f)
  refine ⟨fun c o e hc => ?_, fun i hi => ?_, fun i F' e c hc => ?_, fun c o e => ?_⟩
  · refine b.keep c o (a.keep c o e hc) fun i F f eF hm => ?_
    rcases a.new i F eF c hm with ⟨j, G, eG, hG, hj⟩ | hn
    · rcases hj with rfl | hj
      · exact hc j G (fr f) eG hG
      · exact hc j G hj eG hG
    · rw [e] at hn; cases hn
  · rw [b.same i fun z => hi (fr z), a.same i hi]
  · rcases b.new i F' e c hc with ⟨j, G, eG, hG, hj⟩ | hn
    · rcases a.new j G eG c hG with ⟨k, L, eL, hL, hk⟩ | hn
      · refine .inl ⟨k, L, eL, hL, ?_⟩
        rcases hj with rfl | hj
        · exact hk
        · rcases hk with rfl | hk
          · exact .inr (fr hj)
          · exact .inr hk
      · exact .inr hn
    · refine .inr ?_
      cases q : H c with
      | none => rfl
      | some o =>
        obtain ⟨o', h1⟩ := a.there c o q
        rw [hn] at h1; cases h1
  · obtain ⟨o1, e1⟩ := a.there c o e
    exact b.there c o1 e1
/-- how a value came: owned by nobody; a slot's own; a part of a slot's; a mixture -/
inductive AL where
  | own | var (i : Nat) | sub (i : Nat) | mix (l : List Nat)
def AL.slots : AL → List Nat
  | .own => []
  | .var i => [i]
  | .sub i => [i]
  | .mix l => l
def AL.join : AL → AL → AL
  | .own, .own => .own
  | a, b => .mix (a.slots ++ b.slots)
def AL.child : AL → AL
  | .own => .own
  | .var i => .sub i
  | .sub i => .sub i
  | .mix l => .mix l
/-- what is known of a value that waits -/
structure TOK (H0 : Hp) (al : AL) (H : Hp) (Fs : List (List Addr)) (F : List Addr) : Prop where
  pt : ∀ b ∈ F, (∃ (i : Nat) (G : List Addr), i ∈ al.slots ∧ Fs[i]? = some G ∧ b ∈ G) ∨ (H0 b = none ∧ ∀ (j : Nat) (G : List Addr), Fs[j]? = some G → b ∉ G)
  own : al = .own → F.Nodup ∧ ∀ b ∈ F, Live H b
  var : ∀ i, al = .var i → Fs[i]? = some F
  sub : ∀ i, al = .sub i → ∃ (a : Addr) (G : List Addr), Fs[i]? = some (a :: G) ∧ List.Sublist F G
theorem TOK.nil {H0 : Hp} {al : AL} {H : Hp} {Fs : List (List Addr)} (h1 : ∀ i, al ≠ .var i) (h2 : ∀ i, al ≠ .sub i) : TOK H0 al H Fs [] :=
  ⟨fun _ hb => (nomatch hb), fun _ => ⟨List.nodup_nil, fun _ hb => (nomatch hb)⟩, fun i e => absurd e (h1 i), fun i e => absurd e (h2 i)⟩
theorem TOK.nilOwn {H0 : Hp} {H : Hp} {Fs : List (List Addr)} : TOK H0 .own H Fs [] := TOK.nil (fun _ e => nomatch e) fun _ e => nomatch e
/-- a value that waits through a step -/
theorem TOK.pass {P : Cz} {al : AL} {lv fl : List Nat} {σ : L2.St} {env : Env} {H H' : Hp} {Fs Fs' : List (List Addr)} {F : List Addr} (S : SI P fl σ env H Fs) (t : TOK P.H0 al H Fs F) (r : ∀ b ∈ F, ∃ o, H b = some o) (s : Step lv fl H Fs H' Fs') (hl : ∀ i ∈ al.slots, i ∈ lv) :
    TOK P.H0 al H' Fs' F ∧ ∀ b ∈ F, ∀ o, H b = some o → H' b = some o := by
  have nf : ∀ i ∈ al.slots, ¬ Free fl lv i := fun i hi f => by
    obtain ⟨n, _, _, q⟩ := f
    exact q (hl i hi)
  have out : ∀ b ∈ F, ∀ i G, Free fl lv i → Fs[i]? = some G → b ∉ G := fun b hb i G f eG hG => by
    rcases t.pt b hb with ⟨j, G', hj, ej, hbj⟩ | ⟨_, h⟩
    · by_cases e : j = i
      · subst e; exact nf j hj f
      · obtain ⟨n, en, h2, _⟩ := f
        have q := (S.own i n G en eG).pt b (by rw [reg2 h2]; exact hG)
        exact q.2.2 j G' e ej hbj
    · exact h i G eG hG
  have kp : ∀ b ∈ F, ∀ o, H b = some o → H' b = some o := fun b hb o e => s.keep b o e (out b hb)
  refine ⟨⟨fun b hb => ?_, fun e => ⟨(t.own e).1, fun b hb => ((t.own e).2 b hb).keep (kp b hb)⟩, fun i e => ?_, fun i e => ?_⟩, kp⟩
  · rcases t.pt b hb with ⟨j, G', hj, ej, hbj⟩ | ⟨h0, h⟩
    · exact .inl ⟨j, G', hj, by rw [s.same j (nf j hj)]; exact ej, hbj⟩
    · refine .inr ⟨h0, fun j G ej hG => ?_⟩
      rcases s.new j G ej b hG with ⟨k, L, ek, hL, _⟩ | hn
      · exact h k L ek hL
      · obtain ⟨o, e⟩ := r b hb
        rw [e] at hn; cases hn
  · subst e
    rw [s.same i (nf i (by simp [AL.slots]))]
    exact t.var i rfl
  · subst e
    obtain ⟨a, G, e1, h⟩ := t.sub i rfl
    exact ⟨a, G, by rw [s.same i (nf i (by simp [AL.slots]))]; exact e1, h⟩
theorem TOK.step {P : Cz} {al : AL} {lv fl : List Nat} {σ : L2.St} {env : Env} {H H' : Hp} {Fs Fs' : List (List Addr)} {F : List Addr} {v : V} {d : D} (S : SI P fl σ env H Fs) (t : TOK P.H0 al H Fs F) (r : Rp K H v d F) (s : Step lv fl H Fs H' Fs') (hl : ∀ i ∈ al.slots, i ∈ lv) :
    TOK P.H0 al H' Fs' F ∧ Rp K H' v d F := by
  obtain ⟨h1, h2⟩ := t.pass S r.there s hl
  exact ⟨h1, r.keep h2⟩
/-- where a new value's things came from: they are new, or stood in a slot (nobody's: in one that owned all of them) -/
def Org (lv fl : List Nat) (H : Hp) (Fs : List (List Addr)) (al : AL) (F : List Addr) : Prop := ∀ b ∈ F, H b = none ∨ ∃ (j : Nat) (G : List Addr), Fs[j]? = some G ∧ b ∈ G ∧ (al = .own → Free fl lv j)
theorem Org.nil {lv fl : List Nat} {al : AL} {H : Hp} {Fs : List (List Addr)} : Org lv fl H Fs al [] := fun _ hb => nomatch hb
theorem Step.back0 {lv fl : List Nat} {H H' : Hp} {Fs Fs' : List (List Addr)} (s : Step lv fl H Fs H' Fs') {b : Addr} (e : H' b = none) : H b = none := by
  cases q : H b with
  | none => rfl
  | some o =>
    obtain ⟨o', h⟩ := s.there b o q
    rw [e] at h; cases h
theorem Org.back {lv lv' fl fl' : List Nat} {al : AL} {H H' : Hp} {Fs Fs' : List (List Addr)} {F : List Addr} (h : Org lv' fl' H' Fs' al F) (s : Step lv fl H Fs H' Fs') (sf : SubF fl' fl) (sl : ∀ j ∈ lv, j ∈ lv') : Org lv fl H Fs al F := fun b hb => by
  rcases h b hb with e | ⟨j, G, e, hG, fr⟩
  · exact .inl (s.back0 e)
  · rcases s.new j G e b hG with ⟨k, L, ek, hL, hk⟩ | e
    · refine .inr ⟨k, L, ek, hL, fun z => ?_⟩
      rcases hk with rfl | hk
      · exact Free.lv sl (Free.sub sf (fr z))
      · exact hk
    · exact .inl e
theorem Org.weak {lv fl : List Nat} {al al' : AL} {H : Hp} {Fs : List (List Addr)} {F : List Addr} (h : Org lv fl H Fs al F) (k : al' = .own → al = .own) : Org lv fl H Fs al' F := fun b hb => by
  rcases h b hb with e | ⟨j, G, e, hG, fr⟩
  · exact .inl e
  · exact .inr ⟨j, G, e, hG, fun z => fr (k z)⟩
theorem Org.new {lv fl : List Nat} {al : AL} {H : Hp} {Fs : List (List Addr)} {F : List Addr} (h : ∀ b ∈ F, H b = none) : Org lv fl H Fs al F := fun b hb => .inl (h b hb)
end VL
/-! V2: what an expression, a test is worth (RE, RT), and their rules. -/
namespace VL
open PySem PySem.Spec L2
variable {K : PySem.W.Frag}
abbrev Res (α : Type) := Option (Rs α × Env)
abbrev Ev := Env → Res D
abbrev Tv := Env → Res Bool
def bindM {α β : Type} (m : Res α) (f : α → Env → Res β) : Res β :=
  match m with
  | none => none
  | some (.ok a, e) => f a e
  | some (.ex x, e) => some (.ex x, e)
@[simp] theorem bindM_none {α β : Type} (f : α → Env → Res β) : bindM none f = none := rfl
@[simp] theorem bindM_ok {α β : Type} (a : α) (e : Env) (f : α → Env → Res β) : bindM (some (.ok a, e)) f = f a e := rfl
@[simp] theorem bindM_ex {α β : Type} (x : Exn) (e : Env) (f : α → Env → Res β) : bindM (some (.ex x, e)) f = some (.ex x, e) := rfl
def ExRep (ca : String → Addr) (x : Exn) (c : Value) (dr : Option Addr) (H : Hp) : Prop :=
  c = .ref (ca x.cls) ∧ ((x.fs = [] ∧ dr = none) ∨ ∃ dd, dr = some dd ∧ H dd = some (.xd x.fs))
/-- the def's own way out by an exception takes x -/
def ExOk (P : Cz) (x : Exn) : Prop := ∀ (c : Value) (dr : Option Addr) (H' : Hp), (∀ b o, P.H0 b = some o → b ∉ P.M → H' b = some o) → ExRep P.ca x c dr H' → P.E c dr H'
def WE {α : Type} (P : Cz) (r : Rs α) (k : α → Prop) : Prop :=
  match r with
  | .ok d => k d
  | .ex x => ExOk P x
def RE (P : Cz) (lv fl : List Nat) (te : TE) (ev : Ev) (al : AL) (fl' : List Nat) : Prop :=
  SubF fl' fl ∧ ∀ (σ : L2.St) (env : Env) (H : Hp) (Fs : List (List Addr)) (r : Rs D) (env' : Env), SI P fl σ env H Fs → ev env = some (r, env') → ∀ Q : VK,
    WE P r (fun d => ∀ (v : V) (F : List Addr) (H' : Hp) (Fs' : List (List Addr)), SI P fl' σ env' H' Fs' → Step lv fl H Fs H' Fs' → Rp P.K H' v d F → TOK P.H0 al H' Fs' F → Org lv fl H Fs al F → Q v H') → te σ H Q
def RT (P : Cz) (lv fl : List Nat) (tt : TT) (tv : Tv) (fl' : List Nat) : Prop :=
  SubF fl' fl ∧ ∀ (σ : L2.St) (env : Env) (H : Hp) (Fs : List (List Addr)) (r : Rs Bool) (env' : Env), SI P fl σ env H Fs → tv env = some (r, env') → ∀ Q : Bool → Hp → Prop,
    WE P r (fun b => ∀ (H' : Hp) (Fs' : List (List Addr)), SI P fl' σ env' H' Fs' → Step lv fl H Fs H' Fs' → Q b H') → tt σ H Q
section
variable {P : Cz} {fl fl1 fl2 lv : List Nat} {σ : L2.St} {env env' : Env} {H H' : Hp} {Fs : List (List Addr)}
theorem WE.ex {α : Type} {r : Rs α} {k : α → Prop} (h : WE P r k) : ∀ x, r = .ex x → ExOk P x := fun x e => by subst e; exact h
theorem WE.imp {α : Type} {r : Rs α} {k k' : α → Prop} (h : WE P r k) (f : ∀ a, r = .ok a → k a → k' a) : WE P r k' := by
  cases r with
  | ok a => exact f a rfl h
  | ex x => exact h
/-- an expression, and what goes on with its value -/
theorem RE.bind {β : Type} {f : D → Env → Res β} {r : Rs β} {ta : TE} {ea : Ev} {al : AL} (ha : RE P lv fl ta ea al fl1) (S : SI P fl σ env H Fs) (he : bindM (ea env) f = some (r, env')) (hx : ∀ x, r = .ex x → ExOk P x) (Q : VK)
    (hok : ∀ d e1, ea env = some (.ok d, e1) → f d e1 = some (r, env') → ∀ (v : V) (F : List Addr) (H' : Hp) (Fs' : List (List Addr)), SI P fl1 σ e1 H' Fs' → Step lv fl H Fs H' Fs' → Rp P.K H' v d F → TOK P.H0 al H' Fs' F → Org lv fl H Fs al F → Q v H') : ta σ H Q := by
  cases q : ea env with
  | none => rw [q] at he; cases he
  | some p =>
    obtain ⟨r1, e1⟩ := p
    rw [q] at he
    cases r1 with
    | ex x =>
      cases he
      exact ha.2 σ env H Fs _ _ S q _ (hx x rfl)
    | ok d => exact ha.2 σ env H Fs _ _ S q _ (hok d e1 q he)
theorem RT.bind {β : Type} {f : Bool → Env → Res β} {r : Rs β} {ta : TT} {ea : Tv} (ha : RT P lv fl ta ea fl1) (S : SI P fl σ env H Fs) (he : bindM (ea env) f = some (r, env')) (hx : ∀ x, r = .ex x → ExOk P x) (Q : Bool → Hp → Prop)
    (hok : ∀ d e1, f d e1 = some (r, env') → ∀ (H' : Hp) (Fs' : List (List Addr)), SI P fl1 σ e1 H' Fs' → Step lv fl H Fs H' Fs' → Q d H') : ta σ H Q := by
  cases q : ea env with
  | none => rw [q] at he; cases he
  | some p =>
    obtain ⟨r1, e1⟩ := p
    rw [q] at he
    cases r1 with
    | ex x =>
      cases he
      exact ha.2 σ env H Fs _ _ S q _ (hx x rfl)
    | ok d => exact ha.2 σ env H Fs _ _ S q _ (hok d e1 he)
theorem SI.grow (S : SI P fl σ env H Fs) (k : ∀ b o, H b = some o → H' b = some o) : SI P fl σ env H' Fs where
  l1 := S.l1
  l2 := S.l2
  l3 := S.l3
  rep := fun i d e => by
    obtain ⟨v, F, a, b, r⟩ := S.rep i d e
    exact ⟨v, F, a, b, r.keep fun b _ o => k b o⟩
  nul := S.nul
  own := fun i n F a b => by
    have q := S.own i n F a b
    exact ⟨q.nd, q.rt, fun b hb => ⟨(q.pt b hb).1, (q.pt b hb).2.1.keep (k b), (q.pt b hb).2.2⟩, q.bas⟩
  frm := fun b o e h => k b o (S.frm b o e h)
  mm := fun b hb => by
    obtain ⟨o, e⟩ := S.mm b hb
    exact ⟨o, k b o e⟩
  vi := S.vi
/-- a name -/
def eVar (i : Nat) : Ev := fun env => match env[i]? with
  | some (some d) => some (.ok d, env)
  | _ => none
theorem re_var (i : Nat) : RE P lv fl (tVar i) (eVar i) (.var i) fl := by
  refine ⟨SubF.refl, fun σ env H Fs r env' S he Q hQ => ?_⟩
  unfold eVar at he
  split at he
  · rename_i d e
    cases he
    obtain ⟨v, F, h1, h2, h3⟩ := S.rep i d e
    exact ⟨v, h1, hQ v F H Fs S Step.refl h3 ⟨fun b hb => .inl ⟨i, F, by simp [AL.slots], h2, hb⟩, (fun e => by cases e), (fun j e => by cases e; exact h2), (fun j e => by cases e)⟩ (fun b hb => .inr ⟨i, F, h2, hb, fun z => by cases z⟩)⟩
  · cases he
/-- constants -/
def eC (d : D) : Ev := fun env => some (.ok d, env)
theorem re_c {v : V} {d : D} (h : ∀ H, Rp P.K H v d []) : RE P lv fl (tC v) (eC d) .own fl := by
  refine ⟨SubF.refl, fun σ env H Fs r env' S he Q hQ => ?_⟩
  cases he
  exact hQ _ _ H Fs S Step.refl (h H) TOK.nilOwn Org.nil
theorem re_int (i : Int) : RE P lv fl (tC (.int i)) (eC (.int i)) .own fl := re_c fun _ => .int i
theorem re_bl (i : Bool) : RE P lv fl (tC (.bl i)) (eC (.bl i)) .own fl := re_c fun _ => .bl i
theorem re_non : RE P lv fl (tC .non) (eC .non) .own fl := re_c fun _ => .non
theorem re_str (x : Str) : RE P lv fl (tC (.str x)) (eC (.str x)) .own fl := re_c fun _ => .str x
def D.scal : D → Bool
  | .non => true
  | .bl _ => true
  | .int _ => true
  | .str _ => true
  | _ => false
theorem Rp.scal {v : V} {d : D} {F : List Addr} (r : Rp K H v d F) (h : d.scal = true) : F = [] := by
  cases r <;> first | rfl | cases h
/-- a value that is a scalar -/
def bScal (d : D) (e : Env) : Res D := if d.scal then some (.ok d, e) else none
def eScal (ev : Ev) : Ev := fun env => bindM (ev env) bScal
theorem re_scal {te : TE} {ev : Ev} {al : AL} (h : RE P lv fl te ev al fl1) : RE P lv fl te (eScal ev) .own fl1 := by
  refine ⟨h.1, fun σ env H Fs r env' S he Q hQ => ?_⟩
  refine h.bind S he hQ.ex Q fun d e1 q he v F H' Fs' S' st rp tk og => ?_
  unfold bScal at he
  split at he
  · rename_i hd
    cases he
    have e := rp.scal hd
    subst e
    exact hQ v [] H' Fs' S' st rp TOK.nilOwn Org.nil
  · cases he
/-! ### operators by values -/
/-- a one-place reading: the answer is new -/
def OpS1 (K : PySem.W.Frag) (r : V → Hp → VK → Prop) (f : D → Option D) : Prop :=
  ∀ (H : Hp) (x : V) (dx d : D) (Fx : List Addr) (Q : VK), Rp K H x dx Fx → f dx = some d →
    (∀ (v : V) (H' : Hp) (F : List Addr), (∀ b o, H b = some o → H' b = some o) → Rp K H' v d F → F.Nodup → (∀ b ∈ F, H b = none ∧ Live H' b) → Q v H') → r x H Q
def OpS2 (K : PySem.W.Frag) (r : R2) (f : D → D → Option D) : Prop :=
  ∀ (H : Hp) (x y : V) (dx dy d : D) (Fx Fy : List Addr) (Q : VK), Rp K H x dx Fx → Rp K H y dy Fy → f dx dy = some d →
    (∀ (v : V) (H' : Hp) (F : List Addr), (∀ b o, H b = some o → H' b = some o) → Rp K H' v d F → F.Nodup → (∀ b ∈ F, H b = none ∧ Live H' b) → Q v H') → r x y H Q
theorem TOK.fresh {F : List Addr} (S : SI P fl σ env H Fs) (nd : F.Nodup) (k : ∀ b ∈ F, H b = none ∧ Live H' b) : TOK P.H0 .own H' Fs F :=
  ⟨fun b hb => .inr ⟨S.new (k b hb).1, fun j G e hG => by
      obtain ⟨o, q⟩ := S.fp e b hG
      rw [(k b hb).1] at q; cases q⟩, (fun _ => ⟨nd, fun b hb => (k b hb).2⟩), (fun _ e => by cases e), (fun _ e => by cases e)⟩
def bO (o : Option D) (e : Env) : Res D := match o with
  | some d => some (.ok d, e)
  | none => none
@[simp] theorem bO_some (d : D) (e : Env) : bO (some d) e = some (.ok d, e) := rfl
@[simp] theorem bO_none (e : Env) : bO none e = none := rfl
def eOp1 (f : D → Option D) (ea : Ev) : Ev := fun env => bindM (ea env) fun x e => bO (f x) e
def eOp2 (f : D → D → Option D) (ea eb : Ev) : Ev := fun env => bindM (ea env) fun x e1 => bindM (eb e1) fun y e2 => bO (f x y) e2
theorem bO_inv {o : Option D} {e : Env} {r : Rs D} (h : bO o e = some (r, env')) : ∃ d, o = some d ∧ r = .ok d ∧ env' = e := by
  cases o with
  | none => cases h
  | some d => cases h; exact ⟨d, rfl, rfl, rfl⟩
theorem re_op1 {r : V → Hp → VK → Prop} {f : D → Option D} {ta : TE} {ea : Ev} {al : AL} (hr : OpS1 P.K r f) (ha : RE P lv fl ta ea al fl1) : RE P lv fl (tUn r ta) (eOp1 f ea) .own fl1 := by
  refine ⟨ha.1, fun σ env H Fs r env' S he Q hQ => ?_⟩
  refine ha.bind S he hQ.ex _ fun d e1 q he v F H1 Fs1 S1 st rp tk og => ?_
  obtain ⟨d', hd, rfl, rfl⟩ := bO_inv he
  refine hr H1 v d d' F Q rp hd fun w H' G k rw' nd nk => ?_
  exact hQ w G H' Fs1 (S1.grow k) (st.trans (Step.grow k) ha.1 fun _ h => h) rw' (TOK.fresh S1 nd nk) (fun b hb => .inl (st.back0 (nk b hb).1))
theorem re_op2 {r : R2} {f : D → D → Option D} {ta tb : TE} {ea eb : Ev} {al al2 : AL} (hr : OpS2 P.K r f) (ha : RE P lv fl ta ea al fl1) (hb : RE P (al.slots ++ lv) fl1 tb eb al2 fl2) : RE P lv fl (tOp r ta tb) (eOp2 f ea eb) .own fl2 := by
  refine ⟨hb.1.trans ha.1, fun σ env H Fs r env' S he Q hQ => ?_⟩
  refine ha.bind S he hQ.ex _ fun d e1 q he v F H1 Fs1 S1 st rp tk og => ?_
  refine hb.bind S1 he hQ.ex _ fun d2 e2 q2 he v2 F2 H2 Fs2 S2 st2 rp2 tk2 og2 => ?_
  obtain ⟨d', hd, rfl, rfl⟩ := bO_inv he
  obtain ⟨tk', rp'⟩ := TOK.step S1 tk rp st2 fun i hi => List.mem_append_left _ hi
  refine hr H2 v v2 d d2 d' F F2 Q rp' rp2 hd fun w H' G k rw' nd nk => ?_
  exact hQ w G H' Fs2 (S2.grow k) ((st.trans st2 ha.1 fun _ h => List.mem_append_right _ h).trans (Step.grow k) (hb.1.trans ha.1) fun _ h => h) rw' (TOK.fresh S2 nd nk) (fun b hb => .inl (st.back0 (st2.back0 (nk b hb).1)))
/-- an item of a sequence: the answer is a part of the first operand -/
def OpC2 (K : PySem.W.Frag) (r : R2) (f : D → D → Option D) : Prop :=
  ∀ (H : Hp) (x y : V) (dx dy d : D) (Fx Fy : List Addr) (Q : VK), Rp K H x dx Fx → Rp K H y dy Fy → f dx dy = some d →
    (∀ (v : V) (a : Addr) (G F : List Addr), Rp K H v d F → Fx = a :: G → List.Sublist F G → Q v H) → r x y H Q
theorem TOK.child {H0 : Hp} {al : AL} {a : Addr} {G F : List Addr} (t : TOK H0 al H Fs (a :: G)) (s : List.Sublist F G) : TOK H0 al.child H Fs F where
  pt := fun b hb => by
    rcases t.pt b (List.mem_cons_of_mem _ (s.subset hb)) with ⟨i, G', h1, h2, h3⟩ | h
    · refine .inl ⟨i, G', ?_, h2, h3⟩
      cases al <;> exact h1
    · exact .inr h
  own := fun e => by
    have e' : al = .own := by cases al <;> first | rfl | cases e
    obtain ⟨h1, h2⟩ := t.own e'
    exact ⟨(List.nodup_cons.mp h1).2.sublist s, fun b hb => h2 b (List.mem_cons_of_mem _ (s.subset hb))⟩
  var := fun i e => by cases al <;> cases e
  sub := fun i e => by
    cases al with
    | own => cases e
    | var j => cases e; exact ⟨a, G, t.var _ rfl, s⟩
    | sub j =>
      cases e
      obtain ⟨a', G', h1, h2⟩ := t.sub _ rfl
      exact ⟨a', G', h1, (s.trans (List.sublist_cons_self _ _)).trans h2⟩
    | mix l => cases e
theorem re_ix {r : R2} {f : D → D → Option D} {ta tb : TE} {ea eb : Ev} {al al2 : AL} (hr : OpC2 P.K r f) (ha : RE P lv fl ta ea al fl1) (hb : RE P (al.slots ++ lv) fl1 tb eb al2 fl2) : RE P lv fl (tOp r ta tb) (eOp2 f ea eb) al.child fl2 := by
  refine ⟨hb.1.trans ha.1, fun σ env H Fs r env' S he Q hQ => ?_⟩
  refine ha.bind S he hQ.ex _ fun d e1 q he v F H1 Fs1 S1 st rp tk og => ?_
  refine hb.bind S1 he hQ.ex _ fun d2 e2 q2 he v2 F2 H2 Fs2 S2 st2 rp2 tk2 og2 => ?_
  obtain ⟨d', hd, rfl, rfl⟩ := bO_inv he
  obtain ⟨tk', rp'⟩ := TOK.step S1 tk rp st2 fun i hi => List.mem_append_left _ hi
  refine hr H2 v v2 d d2 d' F F2 Q rp' rp2 hd fun w a G F' rw' e hs => ?_
  subst e
  exact hQ w F' H2 Fs2 S2 (st.trans st2 ha.1 fun _ h => List.mem_append_right _ h) rw' (tk'.child hs) (Org.weak (fun b hb => og b (List.mem_cons_of_mem _ (hs.subset hb))) (fun z => by cases al <;> first | rfl | cases z))
/-! ### tests -/
def bB (d : D) (e : Env) : Res Bool := match d with
  | .bl b => some (.ok b, e)
  | _ => none
@[simp] theorem bB_bl (b : Bool) (e : Env) : bB (.bl b) e = some (.ok b, e) := rfl
def tvB (ev : Ev) : Tv := fun env => bindM (ev env) bB
theorem rt_b {te : TE} {ev : Ev} {al : AL} (h : RE P lv fl te ev al fl1) : RT P lv fl (tTest te) (tvB ev) fl1 := by
  refine ⟨h.1, fun σ env H Fs r env' S he Q hQ => ?_⟩
  refine h.bind S he hQ.ex _ fun d e1 q he v F H' Fs' S' st rp tk og => ?_
  unfold bB at he
  split at he
  · cases he
    cases rp
    exact ⟨_, rfl, hQ H' Fs' S' st⟩
  · cases he
/-- a value's truth -/
def D.tru : D → Option Bool
  | .non => some false
  | .bl b => some b
  | .int i => some (i != 0)
  | .lst l => some (!l.isEmpty)
  | .tup l => some (!l.isEmpty)
  | _ => none
def bOB (o : Option Bool) (e : Env) : Res Bool := match o with
  | some b => some (.ok b, e)
  | none => none
@[simp] theorem bOB_some (d : Bool) (e : Env) : bOB (some d) e = some (.ok d, e) := rfl
@[simp] theorem bOB_none (e : Env) : bOB none e = none := rfl
def tvTru (ev : Ev) : Tv := fun env => bindM (ev env) fun d e => bOB d.tru e
def tTru (K : PySem.W.Frag) (te : TE) : TT := fun σ H Q => te σ H fun x H' => ∃ k, TruV K x H' k ∧ Q k H'
theorem rt_tru {te : TE} {ev : Ev} {al : AL} (h : RE P lv fl te ev al fl1) : RT P lv fl (tTru P.K te) (tvTru ev) fl1 := by
  refine ⟨h.1, fun σ env H Fs r env' S he Q hQ => ?_⟩
  refine h.bind S he hQ.ex _ fun d e1 q he v F H' Fs' S' st rp tk og => ?_
  have fin : ∀ b, d.tru = some b → TruV P.K v H' b → ∃ k, TruV P.K v H' k ∧ Q k H' := fun b hb ht => by
    rw [hb] at he
    cases he
    exact ⟨b, ht, hQ H' Fs' S' st⟩
  cases rp with
  | non => exact fin _ rfl rfl
  | bl b => exact fin _ rfl rfl
  | int i => exact fin _ rfl rfl
  | str x => cases he
  | scr _ _ _ _ => cases he
  | lst r z l =>
    refine fin _ rfl (.inl ⟨_, SqL.of r, ?_⟩)
    cases l <;> rfl
  | tup r z l =>
    refine fin _ rfl (.inr (.inl ⟨_, SqT.of r, ?_⟩))
    cases l <;> rfl
  | obj _ _ _ => cases he
  | exc _ _ _ => cases he
def tvNot (tv : Tv) : Tv := fun env => bindM (tv env) fun b e => some (.ok (!b), e)
theorem rt_not {tt : TT} {tv : Tv} (h : RT P lv fl tt tv fl1) : RT P lv fl (tNot tt) (tvNot tv) fl1 := by
  refine ⟨h.1, fun σ env H Fs r env' S he Q hQ => ?_⟩
  refine h.bind S he hQ.ex _ fun d e1 he H' Fs' S' st => ?_
  cases he
  exact hQ H' Fs' S' st
theorem fle {n' n : Nat} (h : (n' == n || (n' == 0 && n != 3) || (n' == 1 && n == 2)) = true) : n' = n ∨ (n' = 0 ∧ n ≠ 3) ∨ (n' = 1 ∧ 2 ≤ n ∧ n ≠ 3) := by
  simp only [Bool.or_eq_true, Bool.and_eq_true, beq_iff_eq, bne_iff_ne, ne_eq] at h
  rcases h with (h | h) | h
  · exact .inl h
  · exact .inr (.inl h)
  · exact .inr (.inr ⟨h.1, by omega, by omega⟩)
/-- fl' is weaker than fl -/
def flLe : List Nat → List Nat → Bool
  | [], [] => true
  | a :: r, b :: s => (a == b || (a == 0 && b != 3) || (a == 1 && b == 2)) && flLe r s
  | _, _ => false
theorem flLe_at : ∀ {fl' fl : List Nat}, flLe fl' fl = true → fl'.length = fl.length ∧ ∀ (i n' : Nat), fl'[i]? = some n' → ∃ n, fl[i]? = some n ∧ (n' = n ∨ (n' = 0 ∧ n ≠ 3) ∨ (n' = 1 ∧ 2 ≤ n ∧ n ≠ 3))
  | [], [], _ => ⟨rfl, fun i n' e => by simp at e⟩
  | a :: r, b :: s, h => by
    simp only [flLe, Bool.and_eq_true] at h
    obtain ⟨h1, h2⟩ := h
    obtain ⟨e, k⟩ := flLe_at h2
    refine ⟨by simp [e], fun i n' q => ?_⟩
    cases i with
    | zero => simp at q; subst q; exact ⟨b, rfl, fle h1⟩
    | succ i => simpa using k i n' (by simpa using q)
  | [], _ :: _, h => by cases h
  | _ :: _, [], h => by cases h
theorem OwnAt.weak {i n n' : Nat} {F : List Addr} (o : OwnAt P H Fs i n F) (h : n' = n ∨ (n' = 0 ∧ n ≠ 3) ∨ (n' = 1 ∧ 2 ≤ n ∧ n ≠ 3)) : OwnAt P H Fs i n' F := by
  rcases h with rfl | ⟨rfl, hn⟩ | ⟨rfl, h2, h3⟩
  · exact o
  · exact ⟨fun z => by omega, fun z => by omega, fun b hb => (nomatch hb), fun _ => o.bas hn⟩
  · refine ⟨fun z => by omega, fun _ a G e => ?_, fun b hb => ?_, fun _ => o.bas (by omega)⟩
    · have := o.nd h2
      rw [e] at this
      exact (List.nodup_cons.mp this).1
    · obtain ⟨h1, q2, q3⟩ := o.pt b (by rw [reg2 h2]; exact reg_sub b hb)
      refine ⟨?_, q2, q3⟩
      rcases h1 with h1 | ⟨h1, _⟩
      · exact .inl h1
      · omega
theorem SI.weak (S : SI P fl σ env H Fs) (h : flLe fl1 fl = true) : SI P fl1 σ env H Fs := by
  obtain ⟨e, k⟩ := flLe_at h
  refine ⟨S.l1, e.trans S.l2, S.l3, S.rep, S.nul, fun i n F a b => ?_, S.frm, S.mm, fun i z => ?_⟩
  · obtain ⟨m, e1, e2⟩ := k i n a
    exact (S.own i m F e1 b).weak e2
  · obtain ⟨m, e1, e2⟩ := k i 3 z
    refine S.vi i ?_
    rcases e2 with e2 | ⟨e2, _⟩ | ⟨e2, _⟩
    · rw [e2]; exact e1
    · omega
    · omega
theorem flLe_sub (h : flLe fl1 fl = true) : SubF fl1 fl := fun i n e => by
  obtain ⟨m, e1, e2⟩ := (flLe_at h).2 i n e
  rcases e2 with rfl | ⟨rfl, _⟩ | ⟨rfl, _, _⟩
  · exact ⟨fun _ => e1, fun z => ⟨_, e1, by omega⟩⟩
  · exact ⟨fun z => by omega, fun z => by omega⟩
  · exact ⟨fun z => by omega, fun _ => ⟨_, e1, by omega⟩⟩
theorem re_weak {te : TE} {ev : Ev} {al : AL} (h : RE P lv fl te ev al fl1) (k : flLe fl2 fl1 = true) : RE P lv fl te ev al fl2 :=
  ⟨(flLe_sub k).trans h.1, fun σ env H Fs r env' S he Q hQ => h.2 σ env H Fs r env' S he Q (hQ.imp fun d _ q v F H' Fs' S' st rp tk og => q v F H' Fs' (S'.weak k) st rp tk og)⟩
theorem rt_weak {te : TT} {ev : Tv} (h : RT P lv fl te ev fl1) (k : flLe fl2 fl1 = true) : RT P lv fl te ev fl2 :=
  ⟨(flLe_sub k).trans h.1, fun σ env H Fs r env' S he Q hQ => h.2 σ env H Fs r env' S he Q (hQ.imp fun d _ q H' Fs' S' st => q H' Fs' (S'.weak k) st)⟩
def cIf {α : Type} (b : Bool) (x y : Res α) : Res α := match b with
  | true => x
  | false => y
@[simp] theorem cIf_t {α : Type} (x y : Res α) : cIf true x y = x := rfl
@[simp] theorem cIf_f {α : Type} (x y : Res α) : cIf false x y = y := rfl
def tvAnd (t u : Tv) : Tv := fun env => bindM (t env) fun b e => cIf b (u e) (some (.ok false, e))
def tvOr (t u : Tv) : Tv := fun env => bindM (t env) fun b e => cIf b (some (.ok true, e)) (u e)
theorem rt_and {t u : TT} {tv uv : Tv} (h : RT P lv fl t tv fl1) (h2 : RT P lv fl1 u uv fl1) : RT P lv fl (tAnd t u) (tvAnd tv uv) fl1 := by
  refine ⟨h.1, fun σ env H Fs r env' S he Q hQ => ?_⟩
  refine h.bind S he hQ.ex _ fun d e1 he H' Fs' S' st => ?_
  cases d with
  | false =>
    rw [if_neg (by decide)]
    cases he
    exact hQ H' Fs' S' st
  | true =>
    rw [if_pos rfl]
    exact h2.2 σ e1 H' Fs' r env' S' he Q (hQ.imp fun d _ q H2 Fs2 S2 st2 => q H2 Fs2 S2 (st.trans st2 h.1 fun _ z => z))
theorem rt_or {t u : TT} {tv uv : Tv} (h : RT P lv fl t tv fl1) (h2 : RT P lv fl1 u uv fl1) : RT P lv fl (tOr t u) (tvOr tv uv) fl1 := by
  refine ⟨h.1, fun σ env H Fs r env' S he Q hQ => ?_⟩
  refine h.bind S he hQ.ex _ fun d e1 he H' Fs' S' st => ?_
  cases d with
  | true =>
    rw [if_pos rfl]
    cases he
    exact hQ H' Fs' S' st
  | false =>
    rw [if_neg (by decide)]
    exact h2.2 σ e1 H' Fs' r env' S' he Q (hQ.imp fun d _ q H2 Fs2 S2 st2 => q H2 Fs2 S2 (st.trans st2 h.1 fun _ z => z))
/-- values: and, or, not of bools; a if t else b -/
def bOBl (d : D) (e : Env) : Res D := match d with
  | .bl b => some (.ok (.bl b), e)
  | _ => none
@[simp] theorem bOBl_bl (b : Bool) (e : Env) : bOBl (.bl b) e = some (.ok (.bl b), e) := rfl
def eAnd (ea eb : Ev) : Ev := fun env => bindM (tvB ea env) fun b e => cIf b (bindM (eb e) bOBl) (some (.ok (.bl false), e))
def eOr (ea eb : Ev) : Ev := fun env => bindM (tvB ea env) fun b e => cIf b (some (.ok (.bl true), e)) (bindM (eb e) bOBl)
def eNot (ea : Ev) : Ev := fun env => bindM (tvB ea env) fun b e => some (.ok (.bl (!b)), e)
theorem re_and {ta tb : TE} {ea eb : Ev} {al al2 : AL} (ha : RE P lv fl ta ea al fl1) (hb : RE P lv fl1 tb eb al2 fl1) : RE P lv fl (tAndV ta tb) (eAnd ea eb) .own fl1 := by
  refine ⟨ha.1, fun σ env H Fs r env' S he Q hQ => ?_⟩
  refine (rt_b ha).bind S he hQ.ex (fun c H1 => if c = true then tb σ H1 Q else Q (.bl false) H1) fun d e1 he H' Fs' S' st => ?_
  cases d with
  | false =>
    cases he
    exact hQ _ _ H' Fs' S' st (.bl false) TOK.nilOwn Org.nil
  | true =>
    refine hb.bind S' he hQ.ex _ fun d2 e2 q2 he v2 F2 H2 Fs2 S2 st2 rp2 tk2 og2 => ?_
    unfold bOBl at he
    split at he
    · cases he
      cases rp2
      exact hQ _ _ H2 Fs2 S2 (st.trans st2 ha.1 fun _ z => z) (.bl _) TOK.nilOwn Org.nil
    · cases he
theorem re_or {ta tb : TE} {ea eb : Ev} {al al2 : AL} (ha : RE P lv fl ta ea al fl1) (hb : RE P lv fl1 tb eb al2 fl1) : RE P lv fl (tOrV ta tb) (eOr ea eb) .own fl1 := by
  refine ⟨ha.1, fun σ env H Fs r env' S he Q hQ => ?_⟩
  refine (rt_b ha).bind S he hQ.ex (fun c H1 => if c = true then Q (.bl true) H1 else tb σ H1 Q) fun d e1 he H' Fs' S' st => ?_
  cases d with
  | true =>
    cases he
    exact hQ _ _ H' Fs' S' st (.bl true) TOK.nilOwn Org.nil
  | false =>
    refine hb.bind S' he hQ.ex _ fun d2 e2 q2 he v2 F2 H2 Fs2 S2 st2 rp2 tk2 og2 => ?_
    unfold bOBl at he
    split at he
    · cases he
      cases rp2
      exact hQ _ _ H2 Fs2 S2 (st.trans st2 ha.1 fun _ z => z) (.bl _) TOK.nilOwn Org.nil
    · cases he
theorem re_notV {ta : TE} {ea : Ev} {al : AL} (ha : RE P lv fl ta ea al fl1) : RE P lv fl (tNotV ta) (eNot ea) .own fl1 := by
  refine ⟨ha.1, fun σ env H Fs r env' S he Q hQ => ?_⟩
  refine (rt_b ha).bind S he hQ.ex (fun c H1 => Q (.bl (!c)) H1) fun d e1 he H' Fs' S' st => ?_
  cases he
  exact hQ _ _ H' Fs' S' st (.bl _) TOK.nilOwn Org.nil
theorem TOK.mixOf {H0 : Hp} {al : AL} {l : List Nat} {F : List Addr} (t : TOK H0 al H Fs F) (h : ∀ i ∈ al.slots, i ∈ l) : TOK H0 (.mix l) H Fs F :=
  ⟨fun b hb => (t.pt b hb).imp (fun ⟨i, G, h1, h2, h3⟩ => ⟨i, G, h i h1, h2, h3⟩) fun z => z, (fun e => by cases e), (fun _ e => by cases e), (fun _ e => by cases e)⟩
def AL.alt : AL → AL → AL
  | .own, .own => .own
  | a, b => .mix (a.slots ++ b.slots)
theorem TOK.alt1 {H0 : Hp} {al al2 : AL} {F : List Addr} (t : TOK H0 al H Fs F) : TOK H0 (al.alt al2) H Fs F := by
  cases al <;> cases al2 <;> first | exact t | exact t.mixOf fun i hi => List.mem_append_left _ hi
theorem TOK.alt2 {H0 : Hp} {al al2 : AL} {F : List Addr} (t : TOK H0 al2 H Fs F) : TOK H0 (al.alt al2) H Fs F := by
  cases al <;> cases al2 <;> first | exact t | exact t.mixOf fun i hi => List.mem_append_right _ hi
theorem AL.alt_own1 {a b : AL} (h : a.alt b = .own) : a = .own := by cases a <;> cases b <;> first | rfl | cases h
theorem AL.alt_own2 {a b : AL} (h : a.alt b = .own) : b = .own := by cases a <;> cases b <;> first | rfl | cases h
def eIf (tv : Tv) (ea eb : Ev) : Ev := fun env => bindM (tv env) fun b e => cIf b (ea e) (eb e)
theorem re_if {tc : TT} {tv : Tv} {ta tb : TE} {ea eb : Ev} {al al2 : AL} (hc : RT P lv fl tc tv fl1) (ha : RE P lv fl1 ta ea al fl2) (hb : RE P lv fl1 tb eb al2 fl2) : RE P lv fl (tIf tc ta tb) (eIf tv ea eb) (al.alt al2) fl2 := by
  refine ⟨ha.1.trans hc.1, fun σ env H Fs r env' S he Q hQ => ?_⟩
  refine hc.bind S he hQ.ex _ fun d e1 he H' Fs' S' st => ?_
  cases d with
  | true =>
    rw [if_pos rfl]
    exact ha.2 σ e1 H' Fs' r env' S' he Q (hQ.imp fun d _ q v F H2 Fs2 S2 st2 rp tk og => q v F H2 Fs2 S2 (st.trans st2 hc.1 fun _ z => z) rp tk.alt1 ((og.back st hc.1 fun _ z => z).weak AL.alt_own1))
  | false =>
    rw [if_neg (by decide)]
    exact hb.2 σ e1 H' Fs' r env' S' he Q (hQ.imp fun d _ q v F H2 Fs2 S2 st2 rp tk og => q v F H2 Fs2 S2 (st.trans st2 hc.1 fun _ z => z) rp tk.alt2 ((og.back st hc.1 fun _ z => z).weak AL.alt_own2))
end
end VL
/-! V3: argument lists, displays, what a def promises (spV), calls. -/
namespace VL
open PySem PySem.Spec L2
variable {K : PySem.W.Frag}
/-- values (none) and changed slots (some i) of an argument list -/
inductive ArgsV (K : PySem.W.Frag) (H : Hp) (σ : L2.St) : List (Option Nat) → List V → List D → List Addr → Prop
  | nil : ArgsV K H σ [] [] [] []
  | val {v : V} {d : D} {F : List Addr} {ks : List (Option Nat)} {vs : List V} {ds : List D} {G : List Addr} : Rp K H v d F → ArgsV K H σ ks vs ds G → ArgsV K H σ (none :: ks) (v :: vs) (d :: ds) (F ++ G)
  | io {i : Nat} {v : V} {ks : List (Option Nat)} {vs : List V} {ds : List D} {G : List Addr} : σ[i]? = some (some v) → ArgsV K H σ ks vs ds G → ArgsV K H σ (some i :: ks) (v :: vs) ds G
theorem ArgsV.there {H : Hp} {σ : L2.St} {ks : List (Option Nat)} {vs : List V} {ds : List D} {F : List Addr} (h : ArgsV K H σ ks vs ds F) : ∀ b ∈ F, ∃ o, H b = some o := by
  induction h with
  | nil => intro b hb; cases hb
  | val r _ ih =>
    intro b hb
    rcases List.mem_append.mp hb with hb | hb
    · exact r.there b hb
    · exact ih b hb
  | io _ _ ih => exact ih
theorem ArgsV.keep {H H' : Hp} {σ : L2.St} {ks : List (Option Nat)} {vs : List V} {ds : List D} {F : List Addr} (h : ArgsV K H σ ks vs ds F) (k : ∀ b ∈ F, ∀ o, H b = some o → H' b = some o) : ArgsV K H' σ ks vs ds F := by
  induction h with
  | nil => exact .nil
  | val r _ ih => exact .val (r.keep fun b hb => k b (List.mem_append_left _ hb)) (ih fun b hb => k b (List.mem_append_right _ hb))
  | io e _ ih => exact .io e (ih k)
theorem ArgsV.rpl {H : Hp} {σ : L2.St} {ks : List (Option Nat)} {vs : List V} {ds : List D} {F : List Addr} (h : ArgsV K H σ ks vs ds F) (n : ks.all Option.isNone = true) : RpL K H vs ds F ∧ vs.length = ks.length := by
  induction h with
  | nil => exact ⟨.nil, rfl⟩
  | val r _ ih =>
    simp only [List.all_cons, Bool.and_eq_true] at n
    obtain ⟨a, b⟩ := ih n.2
    exact ⟨.cons r a, by simp [b]⟩
  | io e _ ih => simp at n
def RA (P : Cz) (lv fl : List Nat) (ta : TA) (av : Env → Res (List D)) (ks : List (Option Nat)) (al : AL) (fl' : List Nat) : Prop :=
  SubF fl' fl ∧ ∀ (σ : L2.St) (env : Env) (H : Hp) (Fs : List (List Addr)) (r : Rs (List D)) (env' : Env), SI P fl σ env H Fs → av env = some (r, env') → ∀ Q : List V → Hp → Prop,
    WE P r (fun ds => ∀ (vs : List V) (F : List Addr) (H' : Hp) (Fs' : List (List Addr)), SI P fl' σ env' H' Fs' → Step lv fl H Fs H' Fs' → ArgsV P.K H' σ ks vs ds F → TOK P.H0 al H' Fs' F → Org lv fl H Fs al F → Q vs H') → ta σ H Q
section
variable {P : Cz} {fl fl1 fl2 lv : List Nat} {σ : L2.St} {env env' : Env} {H H' : Hp} {Fs : List (List Addr)}
theorem RA.bind {β : Type} {f : List D → Env → Res β} {r : Rs β} {ta : TA} {ea : Env → Res (List D)} {ks : List (Option Nat)} {al : AL} (ha : RA P lv fl ta ea ks al fl1) (S : SI P fl σ env H Fs) (he : bindM (ea env) f = some (r, env')) (hx : ∀ x, r = .ex x → ExOk P x) (Q : List V → Hp → Prop)
    (hok : ∀ ds e1, f ds e1 = some (r, env') → ∀ (vs : List V) (F : List Addr) (H' : Hp) (Fs' : List (List Addr)), SI P fl1 σ e1 H' Fs' → Step lv fl H Fs H' Fs' → ArgsV P.K H' σ ks vs ds F → TOK P.H0 al H' Fs' F → Org lv fl H Fs al F → Q vs H') : ta σ H Q := by
  cases q : ea env with
  | none => rw [q] at he; cases he
  | some p =>
    obtain ⟨r1, e1⟩ := p
    rw [q] at he
    cases r1 with
    | ex x =>
      cases he
      exact ha.2 σ env H Fs _ _ S q _ (hx x rfl)
    | ok d => exact ha.2 σ env H Fs _ _ S q _ (hok d e1 he)
def aNil : Env → Res (List D) := fun env => some (.ok [], env)
theorem ra_nil : RA P lv fl tNil aNil [] .own fl := by
  refine ⟨SubF.refl, fun σ env H Fs r env' S he Q hQ => ?_⟩
  cases he
  exact hQ [] [] H Fs S Step.refl .nil TOK.nilOwn Org.nil
def aCons (ea : Ev) (ar : Env → Res (List D)) : Env → Res (List D) := fun env => bindM (ea env) fun d e => bindM (ar e) fun ds e2 => some (.ok (d :: ds), e2)
theorem AL.join_own {a b : AL} (h : a.join b = .own) : a = .own ∧ b = .own := by
  cases a <;> cases b <;> first | exact ⟨rfl, rfl⟩ | cases h
theorem AL.join_slots1 {a b : AL} {i : Nat} (h : i ∈ a.slots) : i ∈ (a.join b).slots := by
  cases a <;> cases b <;> first | exact h | exact List.mem_append_left _ h
theorem AL.join_slots2 {a b : AL} {i : Nat} (h : i ∈ b.slots) : i ∈ (a.join b).slots := by
  cases a <;> cases b <;> first | exact h | exact List.mem_append_right _ h
theorem AL.join_var {a b : AL} (i : Nat) : a.join b ≠ .var i := by cases a <;> cases b <;> intro h <;> cases h
theorem AL.join_sub {a b : AL} (i : Nat) : a.join b ≠ .sub i := by cases a <;> cases b <;> intro h <;> cases h
/-- two values that wait together; dj: where both are nobody's they are apart -/
theorem TOK.join {H0 : Hp} {al al2 : AL} {F G : List Addr} (t : TOK H0 al H Fs F) (u : TOK H0 al2 H Fs G) (dj : al = .own → al2 = .own → ∀ b ∈ F, b ∉ G) : TOK H0 (al.join al2) H Fs (F ++ G) where
  pt := fun b hb => by
    rcases List.mem_append.mp hb with hb | hb
    · rcases t.pt b hb with ⟨i, L, h1, h2, h3⟩ | h
      · exact .inl ⟨i, L, AL.join_slots1 h1, h2, h3⟩
      · exact .inr h
    · rcases u.pt b hb with ⟨i, L, h1, h2, h3⟩ | h
      · exact .inl ⟨i, L, AL.join_slots2 h1, h2, h3⟩
      · exact .inr h
  own := fun e => by
    obtain ⟨e1, e2⟩ := AL.join_own e
    refine ⟨List.nodup_append.mpr ⟨(t.own e1).1, (u.own e2).1, fun a ha b hb z => dj e1 e2 a ha (z ▸ hb)⟩, fun b hb => ?_⟩
    rcases List.mem_append.mp hb with hb | hb
    · exact (t.own e1).2 b hb
    · exact (u.own e2).2 b hb
  var := fun i e => absurd e (AL.join_var i)
  sub := fun i e => absurd e (AL.join_sub i)
theorem ra_cons {ta : TE} {tr : TA} {ea : Ev} {ar : Env → Res (List D)} {ks : List (Option Nat)} {al al2 : AL} (ha : RE P lv fl ta ea al fl1) (hr : RA P (al.slots ++ lv) fl1 tr ar ks al2 fl2) : RA P lv fl (tCons ta tr) (aCons ea ar) (none :: ks) (al.join al2) fl2 := by
  refine ⟨hr.1.trans ha.1, fun σ env H Fs r env' S he Q hQ => ?_⟩
  refine ha.bind S he hQ.ex _ fun d e1 q he v F H1 Fs1 S1 st rp tk og => ?_
  refine hr.bind S1 he hQ.ex _ fun ds e2 he vs G H2 Fs2 S2 st2 av tk2 og2 => ?_
  cases he
  obtain ⟨tk', kp⟩ := TOK.pass S1 tk rp.there st2 fun i hi => List.mem_append_left _ hi
  refine hQ (v :: vs) (F ++ G) H2 Fs2 S2 (st.trans st2 ha.1 fun _ h => List.mem_append_right _ h) (.val (rp.keep kp) av) (tk'.join tk2 fun e _ b hb hG => ?_) fun b hb => ?_
  · subst e
    rcases og2 b hG with h | ⟨j, L, e, hL, _⟩
    · obtain ⟨o, q⟩ := rp.there b hb
      rw [h] at q; cases q
    · rcases tk.pt b hb with ⟨i, _, h, _⟩ | ⟨_, h⟩
      · cases h
      · exact h j L e hL
  · rcases List.mem_append.mp hb with hb | hb
    · exact (og.weak fun z => (AL.join_own z).1) b hb
    · exact ((og2.back st ha.1 fun _ z => List.mem_append_right _ z).weak fun z => (AL.join_own z).2) b hb
def aIo (i : Nat) (ar : Env → Res (List D)) : Env → Res (List D) := fun env => match env[i]? with
  | some (some _) => ar env
  | _ => none
theorem ra_io {i : Nat} {tr : TA} {ar : Env → Res (List D)} {ks : List (Option Nat)} {al2 : AL} (hr : RA P lv fl tr ar ks al2 fl2) : RA P lv fl (tCons (tVar i) tr) (aIo i ar) (some i :: ks) al2 fl2 := by
  refine ⟨hr.1, fun σ env H Fs r env' S he Q hQ => ?_⟩
  unfold aIo at he
  split at he
  · rename_i d e
    obtain ⟨v, F, h1, h2, h3⟩ := S.rep i d e
    refine ⟨v, h1, ?_⟩
    refine hr.2 σ env H Fs r env' S he _ (hQ.imp fun ds _ q vs G H' Fs' S' st av tk og => ?_)
    exact q (v :: vs) G H' Fs' S' st (.io h1 av) tk og
  · cases he
/-! ### displays -/
theorem upd_keep {p : Addr} {o : HO} (hp : H p = none) : ∀ b u, H b = some u → upd H p o b = some u := fun b u e => by rw [upd_ne (ne_of_none e hp)]; exact e
def AL.isMix : AL → Bool
  | .own => true
  | .mix _ => true
  | _ => false
/-- a new object over such values -/
theorem TOK.new {al : AL} {F : List Addr} {p : Addr} {o : HO} (S : SI P fl σ env H Fs) (t : TOK P.H0 al H Fs F) (ht : ∀ b ∈ F, ∃ o, H b = some o) (hp : H p = none) (hm : al.isMix = true) (hl : Live (upd H p o) p) : TOK P.H0 al (upd H p o) Fs (p :: F) where
  pt := fun b hb => by
    rcases List.mem_cons.mp hb with rfl | hb
    · refine .inr ⟨S.new hp, fun j G e hG => ?_⟩
      obtain ⟨o, q⟩ := S.fp e b hG
      rw [hp] at q; cases q
    · exact t.pt b hb
  own := fun e => by
    refine ⟨List.nodup_cons.mpr ⟨fun h => ?_, (t.own e).1⟩, fun b hb => ?_⟩
    · obtain ⟨o, q⟩ := ht p h
      rw [hp] at q; cases q
    · rcases List.mem_cons.mp hb with rfl | hb
      · exact hl
      · exact ((t.own e).2 b hb).keep (upd_keep hp b)
  var := fun i e => by subst e; cases hm
  sub := fun i e => by subst e; cases hm
theorem live_lst {p : Addr} {xs : List V} : Live (upd H p (.lst xs)) p := .inl ⟨xs, upd_same⟩
theorem live_tup {p : Addr} {xs : List V} : Live (upd H p (.tup xs)) p := .inr (.inl ⟨xs, upd_same⟩)
def eLst (av : Env → Res (List D)) : Ev := fun env => bindM (av env) fun ds e => some (.ok (.lst ds), e)
def eTup (av : Env → Res (List D)) : Ev := fun env => bindM (av env) fun ds e => some (.ok (.tup ds), e)
theorem small_line {n : Nat} (h : n ≤ 1000) : n ≤ sizeLine := by rw [sizeLine_eq]; omega
theorem re_lst {ta : TA} {av : Env → Res (List D)} {ks : List (Option Nat)} {al : AL} (h : RA P lv fl ta av ks al fl1) (hk : ks.all Option.isNone = true := by rfl) (hn : ks.length ≤ 1000 := by decide) (hm : al.isMix = true := by rfl) : RE P lv fl (tLst ta) (eLst av) al fl1 := by
  refine ⟨h.1, fun σ env H Fs r env' S he Q hQ => ?_⟩
  refine h.bind S he hQ.ex _ fun ds e1 he vs F H1 Fs1 S1 st av tk og => ?_
  cases he
  obtain ⟨rl, en⟩ := av.rpl hk
  have hz : vs.length ≤ sizeLine := small_line (by omega)
  refine ⟨hz, fun p hp => ?_⟩
  refine hQ (.ref p) (p :: F) _ Fs1 (S1.grow (upd_keep hp)) (st.trans (Step.grow (upd_keep hp)) h.1 fun _ z => z) ?_ (tk.new S1 av.there hp hm live_lst) fun b hb => ?_
  · exact .lst upd_same hz (rl.keep fun b _ => upd_keep hp b)
  · rcases List.mem_cons.mp hb with rfl | hb
    · exact .inl (st.back0 hp)
    · exact og b hb
theorem re_tup {ta : TA} {av : Env → Res (List D)} {ks : List (Option Nat)} {al : AL} (h : RA P lv fl ta av ks al fl1) (hk : ks.all Option.isNone = true := by rfl) (hn : ks.length ≤ 1000 := by decide) (hm : al.isMix = true := by rfl) : RE P lv fl (tTup ta) (eTup av) al fl1 := by
  refine ⟨h.1, fun σ env H Fs r env' S he Q hQ => ?_⟩
  refine h.bind S he hQ.ex _ fun ds e1 he vs F H1 Fs1 S1 st av tk og => ?_
  cases he
  obtain ⟨rl, en⟩ := av.rpl hk
  have hz : vs.length ≤ sizeLine := small_line (by omega)
  refine ⟨hz, fun p hp => ?_⟩
  refine hQ (.ref p) (p :: F) _ Fs1 (S1.grow (upd_keep hp)) (st.trans (Step.grow (upd_keep hp)) h.1 fun _ z => z) ?_ (tk.new S1 av.there hp hm live_tup) fun b hb => ?_
  · exact .tup upd_same hz (rl.keep fun b _ => upd_keep hp b)
  · rcases List.mem_cons.mp hb with rfl | hb
    · exact .inl (st.back0 hp)
    · exact og b hb
end
/-! ### what a def promises -/
/-- the arguments: values with their footprint, changed ones (true) with theirs -/
inductive ArgsIn (K : PySem.W.Frag) (H : Hp) : List Bool → List V → List D → List Addr → List (List Addr) → Prop
  | nil : ArgsIn K H [] [] [] [] []
  | val {v : V} {d : D} {F : List Addr} {ks : List Bool} {vs : List V} {ds : List D} {G : List Addr} {Ms : List (List Addr)} : Rp K H v d F → ArgsIn K H ks vs ds G Ms → ArgsIn K H (false :: ks) (v :: vs) (d :: ds) (F ++ G) Ms
  | io {v : V} {d : D} {F : List Addr} {ks : List Bool} {vs : List V} {ds : List D} {G : List Addr} {Ms : List (List Addr)} : Rp K H v d F → ArgsIn K H ks vs ds G Ms → ArgsIn K H (true :: ks) (v :: vs) (d :: ds) G (F :: Ms)
/-- the changed arguments behind the call -/
inductive IOut (K : PySem.W.Frag) (H H' : Hp) : List Bool → List V → List D → List (List Addr) → List (List Addr) → Prop
  | nil : IOut K H H' [] [] [] [] []
  | val {v : V} {ks : List Bool} {vs : List V} {ds : List D} {Ms Ms' : List (List Addr)} : IOut K H H' ks vs ds Ms Ms' → IOut K H H' (false :: ks) (v :: vs) ds Ms Ms'
  | io {v : V} {d : D} {F F' : List Addr} {ks : List Bool} {vs : List V} {ds : List D} {Ms Ms' : List (List Addr)} : Rp K H' v d F' → (∀ b ∈ F', H b = none ∨ b ∈ F) → IOut K H H' ks vs ds Ms Ms' → IOut K H H' (true :: ks) (v :: vs) (d :: ds) (F :: Ms) (F' :: Ms')
/-- behind a call that comes back -/
structure Post (K : PySem.W.Frag) (H H' : Hp) (ks : List Bool) (fr : Bool) (vs : List V) (Fv : List Addr) (Ms : List (List Addr)) (d : D) (ios : List D) (v : V) (F' : List Addr) (Ms' : List (List Addr)) : Prop where
  keep : ∀ b o, H b = some o → (∀ F ∈ Ms, b ∉ F) → H' b = some o
  there : ∀ b o, H b = some o → ∃ o', H' b = some o'
  rp : Rp K H' v d F'
  io : IOut K H H' ks vs ios Ms Ms'
  nd : Ms'.flatten.Nodup
  live : ∀ F ∈ Ms', ∀ b ∈ F, Live H' b
  org : ∀ b ∈ F', (∀ F ∈ Ms', b ∉ F) ∧ (H b = none ∨ b ∈ Fv)
  fresh : fr = true → F'.Nodup ∧ ∀ b ∈ F', H b = none ∧ Live H' b
abbrev Fm := List D → Option (Rs D × List D)
def spV (K : PySem.W.Frag) (ca : String → Addr) (ks : List Bool) (fr : Bool) (f : Fm) : Sp := fun vs H Q E =>
  ∃ (ds : List D) (Fv : List Addr) (Ms : List (List Addr)) (r : Rs D) (ios : List D), ArgsIn K H ks vs ds Fv Ms ∧ Ms.flatten.Nodup ∧ (∀ F ∈ Ms, ∀ b ∈ F, Live H b ∧ b ∉ Fv) ∧ f ds = some (r, ios) ∧
    match r with
    | .ok d => ∀ (v : V) (H' : Hp) (F' : List Addr) (Ms' : List (List Addr)), Post K H H' ks fr vs Fv Ms d ios v F' Ms' → Q v H'
    | .ex x => ∀ (c : Value) (dr : Option Addr) (H' : Hp), (∀ b o, H b = some o → (∀ F ∈ Ms, b ∉ F) → H' b = some o) → ExRep ca x c dr H' → E c dr H'
theorem ArgsIn.length {H : Hp} {ks : List Bool} {vs : List V} {ds : List D} {Fv : List Addr} {Ms : List (List Addr)} (h : ArgsIn K H ks vs ds Fv Ms) : vs.length = ks.length := by
  induction h with
  | nil => rfl
  | val _ _ ih => simp [ih]
  | io _ _ ih => simp [ih]
theorem spV_len {ca : String → Addr} {ks : List Bool} {fr : Bool} {f : Fm} : ∀ vs H Q E, spV K ca ks fr f vs H Q E → vs.length = ks.length := fun vs H Q E ⟨_, _, _, _, _, h, _⟩ => h.length
end VL
/-! V4: calls of defs that keep a promise spV. -/
namespace VL
open PySem PySem.Spec L2
variable {K : PySem.W.Frag}
def fillIO (e : Env) : List (Option Nat) → List D → Option (List D)
  | [], [] => some []
  | none :: ks, d :: ds => (fillIO e ks ds).map (d :: ·)
  | some i :: ks, ds => match e[i]? with
    | some (some d) => (fillIO e ks ds).map (d :: ·)
    | _ => none
  | _, _ => none
def putIO : Env → List (Option Nat) → List D → Option Env
  | e, [], [] => some e
  | e, none :: ks, ds => putIO e ks ds
  | e, some i :: ks, d :: ds => putIO (e.set i (some d)) ks ds
  | _, _, _ => none
def ioS : List (Option Nat) → List Nat
  | [] => []
  | none :: ks => ioS ks
  | some i :: ks => i :: ioS ks
def setFs : List (List Addr) → List (Option Nat) → List (List Addr) → List (List Addr)
  | Fs, none :: ks, Ms => setFs Fs ks Ms
  | Fs, some i :: ks, F :: Ms => setFs (Fs.set i F) ks Ms
  | Fs, _, _ => Fs
section
variable {P : Cz} {fl fl1 fl2 lv : List Nat} {σ : L2.St} {env env' : Env} {H H' : Hp} {Fs : List (List Addr)}
abbrev fF (Fs : List (List Addr)) (i : Nat) : List Addr := (Fs[i]?).getD []
theorem args_in (S : SI P fl σ env H Fs) {ks : List (Option Nat)} {vs : List V} {ds : List D} {F : List Addr} (h : ArgsV P.K H σ ks vs ds F) : ∀ {as : List D}, fillIO env ks ds = some as → ArgsIn P.K H (ks.map Option.isSome) vs as F ((ioS ks).map (fF Fs)) := by
  induction h with
  | nil => intro as e; cases e; exact .nil
  | @val v d F ks vs ds G r t ih =>
    intro as e
    simp only [fillIO, Option.map_eq_some_iff] at e
    obtain ⟨as', e1, rfl⟩ := e
    exact .val r (ih e1)
  | @io i v ks vs ds G hs t ih =>
    intro as e
    unfold fillIO at e
    split at e
    · rename_i d he
      simp only [Option.map_eq_some_iff] at e
      obtain ⟨as', e1, rfl⟩ := e
      obtain ⟨v', F, h1, h2, h3⟩ := S.rep i d he
      rw [hs] at h1
      cases h1
      have : fF Fs i = F := by show (Fs[i]?).getD [] = F; rw [h2]; rfl
      show ArgsIn P.K H _ _ _ _ (fF Fs i :: _)
      rw [this]
      exact .io h3 (ih e1)
    · cases e
theorem SI.fsome (S : SI P fl σ env H Fs) {i n : Nat} (e : fl[i]? = some n) : Fs[i]? = some (fF Fs i) ∧ i < env.length := by
  have h1 := (List.getElem?_eq_some_iff.mp e).1
  have h2 : i < Fs.length := by rw [S.l3, ← S.l2]; exact h1
  refine ⟨?_, by rw [← S.l2]; exact h1⟩
  show Fs[i]? = some ((Fs[i]?).getD [])
  rw [List.getElem?_eq_getElem h2]
  rfl
theorem io_nodup (S : SI P fl σ env H Fs) : ∀ {l : List Nat}, l.Nodup → (∀ i ∈ l, ∃ n, fl[i]? = some n ∧ 2 ≤ n) → (l.map (fF Fs)).flatten.Nodup
  | [], _, _ => by simp
  | i :: l, nd, h => by
    obtain ⟨n, e, hn⟩ := h i List.mem_cons_self
    obtain ⟨ef, _⟩ := S.fsome e
    have o := S.own i n _ e ef
    rw [List.map_cons, List.flatten_cons, List.nodup_append]
    refine ⟨o.nd hn, io_nodup S (List.nodup_cons.mp nd).2 fun j hj => h j (List.mem_cons_of_mem _ hj), fun a ha b hb z => ?_⟩
    subst z
    obtain ⟨L, hL, hb⟩ := List.mem_flatten.mp hb
    obtain ⟨j, hj, rfl⟩ := List.mem_map.mp hL
    obtain ⟨m, em, hm⟩ := h j (List.mem_cons_of_mem _ hj)
    have hij : j ≠ i := fun z => (List.nodup_cons.mp nd).1 (z ▸ hj)
    exact (o.pt a (by rw [reg2 hn]; exact ha)).2.2 j _ hij (S.fsome em).1 hb
/-- the slots behind the call -/
structure PutOk (K : PySem.W.Frag) (H H' : Hp) (σ : L2.St) (l : List Nat) (env : Env) (Fs : List (List Addr)) (f0 : Nat → List Addr) (Ms' : List (List Addr)) (env' : Env) (Fs' : List (List Addr)) : Prop where
  le : env'.length = env.length
  lf : Fs'.length = Fs.length
  out : ∀ j, j ∉ l → env'[j]? = env[j]? ∧ Fs'[j]? = Fs[j]?
  at_ : ∀ i ∈ l, ∃ (d : D) (v : V) (F' : List Addr), env'[i]? = some (some d) ∧ σ[i]? = some (some v) ∧ Fs'[i]? = some F' ∧ F' ∈ Ms' ∧ Rp K H' v d F' ∧ ∀ b ∈ F', H b = none ∨ b ∈ f0 i
  dj : ∀ i ∈ l, ∀ j ∈ l, i ≠ j → ∀ F' G', Fs'[i]? = some F' → Fs'[j]? = some G' → ∀ b ∈ F', b ∉ G'
theorem put_io {f0 : Nat → List Addr} {ks : List (Option Nat)} {vs : List V} {ds : List D} {F : List Addr} (h : ArgsV K H σ ks vs ds F) : ∀ {ios : List D} {Ms' : List (List Addr)} {env env' : Env} {Fs : List (List Addr)},
    IOut K H H' (ks.map Option.isSome) vs ios ((ioS ks).map f0) Ms' → putIO env ks ios = some env' → (ioS ks).Nodup → (∀ i ∈ ioS ks, i < env.length ∧ i < Fs.length) → Ms'.flatten.Nodup → PutOk K H H' σ (ioS ks) env Fs f0 Ms' env' (setFs Fs ks Ms') := by
  induction h with
  | nil =>
    intro ios Ms' env env' Fs hi hp nd hl nf
    cases hi
    cases hp
    exact ⟨rfl, rfl, fun _ _ => ⟨rfl, rfl⟩, fun _ h => (nomatch h), fun _ h => (nomatch h)⟩
  | @val v d F ks vs ds G r t ih =>
    intro ios Ms' env env' Fs hi hp nd hl nf
    cases hi with
    | val hi => exact ih hi hp nd hl nf
  | @io i v ks vs ds G hs t ih =>
    intro ios Ms' env env' Fs hi hp nd hl nf
    cases hi with
    | @io _ d _ F' _ _ ds' _ Ms' rp hb hi =>
      have hp' : putIO (env.set i (some d)) ks ds' = some env' := hp
      obtain ⟨ni, nd'⟩ := List.nodup_cons.mp nd
      obtain ⟨l1, l2⟩ := hl i List.mem_cons_self
      obtain ⟨nF, nM, dj⟩ := List.nodup_append.mp (by simpa using nf : (F' ++ Ms'.flatten).Nodup)
      have q := ih (Fs := Fs.set i F') hi hp' nd' (fun j hj => by
        rw [List.length_set, List.length_set]
        exact hl j (List.mem_cons_of_mem _ hj)) nM
      have ei : env'[i]? = some (some d) ∧ (setFs (Fs.set i F') ks Ms')[i]? = some F' := by
        obtain ⟨a, b⟩ := q.out i ni
        rw [a, b]
        exact ⟨List.getElem?_set_self l1, List.getElem?_set_self l2⟩
      show PutOk K H H' σ (i :: ioS ks) env Fs f0 (F' :: Ms') env' (setFs (Fs.set i F') ks Ms')
      refine ⟨by rw [q.le, List.length_set], by rw [q.lf, List.length_set], fun j hj => ?_, fun j hj => ?_, fun j hj k hk ne A B eA eB b hbA hbB => ?_⟩
      · have h1 : j ≠ i := fun z => hj (by rw [z]; exact List.mem_cons_self)
        obtain ⟨a, b⟩ := q.out j fun z => hj (List.mem_cons_of_mem _ z)
        rw [a, b]
        exact ⟨List.getElem?_set_ne (Ne.symm h1), List.getElem?_set_ne (Ne.symm h1)⟩
      · rcases List.mem_cons.mp hj with rfl | hj
        · exact ⟨d, v, F', ei.1, hs, ei.2, List.mem_cons_self, rp, hb⟩
        · obtain ⟨d, v, G', a, b, c, e, f, g⟩ := q.at_ j hj
          exact ⟨d, v, G', a, b, c, List.mem_cons_of_mem _ e, f, g⟩
      · have inM : ∀ j ∈ ioS ks, ∀ L, (setFs (Fs.set i F') ks Ms')[j]? = some L → ∀ c ∈ L, c ∈ Ms'.flatten := fun j hj L eL c hc => by
          obtain ⟨_, _, G', _, _, e3, e4, _⟩ := q.at_ j hj
          rw [e3] at eL
          cases eL
          exact List.mem_flatten.mpr ⟨_, e4, hc⟩
        rcases List.mem_cons.mp hj with zj | zj
        · rcases List.mem_cons.mp hk with zk | zk
          · exact ne (zj.trans zk.symm)
          · rw [zj, ei.2] at eA
            cases eA
            exact dj b hbA b (inM k zk B eB b hbB) rfl
        · rcases List.mem_cons.mp hk with zk | zk
          · rw [zk, ei.2] at eB
            cases eB
            exact dj b hbB b (inM j zj A eA b hbA) rfl
          · exact q.dj j zj k zk ne A B eA eB b hbA hbB
def bCall (f : Fm) (ks : List (Option Nat)) (ds : List D) (e : Env) : Res D :=
  match fillIO e ks ds with
  | none => none
  | some as => match f as with
    | none => none
    | some (.ex x, _) => some (.ex x, e)
    | some (.ok d, ios) => match putIO e ks ios with
      | none => none
      | some e' => some (.ok d, e')
def eCall (f : Fm) (ks : List (Option Nat)) (av : Env → Res (List D)) : Ev := fun env => bindM (av env) (bCall f ks)
def ioOk (lv fl : List Nat) (al : AL) (ks : List (Option Nat)) : Bool :=
  decide (ioS ks).Nodup && (ioS ks).all fun i => (match fl[i]? with | some n => decide (2 ≤ n) | none => false) && !lv.contains i && !al.slots.contains i
def AL.mixed (fr : Bool) (al : AL) : AL := if fr then .own else .mix al.slots
theorem re_call {ta : TA} {av : Env → Res (List D)} {ks : List (Option Nat)} {al : AL} {f : Fm} {fr : Bool} {kb : List Bool} (h : RA P lv fl ta av ks al fl1) (hk : ioOk lv fl1 al ks = true := by rfl) (hb : ks.map Option.isSome = kb := by rfl) : RE P lv fl (tCall (spV P.K P.ca kb fr f) [] P.E ta) (eCall f ks av) (al.mixed fr) fl1 := by
  subst hb
  refine ⟨h.1, fun σ env H Fs r env' S he Q hQ => ?_⟩
  refine h.bind S he hQ.ex _ fun ds e1 he vs F H1 Fs1 S1 st av tk og => ?_
  show spV P.K P.ca (ks.map Option.isSome) fr f (vs ++ []) H1 Q P.E
  rw [List.append_nil]
  simp only [ioOk, Bool.and_eq_true, decide_eq_true_eq, List.all_eq_true] at hk
  obtain ⟨nd, hk⟩ := hk
  have hs : ∀ i ∈ ioS ks, (∃ n, fl1[i]? = some n ∧ 2 ≤ n) ∧ i ∉ lv ∧ i ∉ al.slots := fun i hi => by
    obtain ⟨⟨a, b⟩, c⟩ := hk i hi
    refine ⟨?_, by simpa using b, by simpa using c⟩
    split at a
    · rename_i n e; exact ⟨n, e, by simpa using a⟩
    · cases a
  unfold bCall at he
  split at he
  · cases he
  rename_i as hf
  have hA := args_in S1 av hf
  have hN := io_nodup S1 nd fun i hi => (hs i hi).1
  have ownI : ∀ i ∈ ioS ks, ∃ n, fl1[i]? = some n ∧ 2 ≤ n ∧ Fs1[i]? = some (fF Fs1 i) ∧ OwnAt P H1 Fs1 i n (fF Fs1 i) := fun i hi => by
    obtain ⟨⟨n, e, hn⟩, _⟩ := hs i hi
    obtain ⟨ef, _⟩ := S1.fsome e
    exact ⟨n, e, hn, ef, S1.own i n _ e ef⟩
  have hL : ∀ G ∈ (ioS ks).map (fF Fs1), ∀ b ∈ G, Live H1 b ∧ b ∉ F := fun G hG b hb => by
    obtain ⟨i, hi, rfl⟩ := List.mem_map.mp hG
    obtain ⟨n, e, hn, ef, o⟩ := ownI i hi
    have q := o.pt b (by rw [reg2 hn]; exact hb)
    refine ⟨q.2.1, fun hF => ?_⟩
    rcases tk.pt b hF with ⟨j, L, hj, ej, hbL⟩ | ⟨_, z⟩
    · exact q.2.2 j L (fun z => (hs i hi).2.2 (z ▸ hj)) ej hbL
    · exact z i _ ef hb
  have notM : ∀ b, (∀ i ∈ ioS ks, b ∉ fF Fs1 i) → ∀ G ∈ (ioS ks).map (fF Fs1), b ∉ G := fun b hb G hG => by
    obtain ⟨i, hi, rfl⟩ := List.mem_map.mp hG
    exact hb i hi
  have frmM : ∀ b o, P.H0 b = some o → b ∉ P.M → ∀ G ∈ (ioS ks).map (fF Fs1), b ∉ G := fun b o e hb => notM b fun i hi hbi => by
    obtain ⟨n, en, hn, ef, ow⟩ := ownI i hi
    rcases (ow.pt b (by rw [reg2 hn]; exact hbi)).1 with z | ⟨_, _, z⟩
    · rw [e] at z; cases z
    · exact hb z
  split at he
  · cases he
  · rename_i x ios hfa
    cases he
    exact ⟨as, F, _, .ex x, ios, hA, hN, hL, hfa, fun c dr H2 k er => hQ.ex x rfl c dr H2 (fun b o e hb => k b o (S1.frm b o e hb) (frmM b o e hb)) er⟩
  · rename_i d ios hfa
    split at he
    · cases he
    rename_i e2 hput
    cases he
    refine ⟨as, F, _, .ok d, ios, hA, hN, hL, hfa, fun v H2 F2 Ms2 post => ?_⟩
    have q := put_io av post.io hput nd (fun i hi => by
      obtain ⟨n, e, hn, ef, _⟩ := ownI i hi
      have h1 := (S1.fsome e).2
      exact ⟨h1, by rw [S1.l3]; exact h1⟩) post.nd
    generalize hFs2 : setFs Fs1 ks Ms2 = Fs2 at q
    -- a slot that is not handed over is out of reach
    have apart : ∀ j G, j ∉ ioS ks → Fs1[j]? = some G → ∀ b ∈ G, ∀ i ∈ ioS ks, b ∉ fF Fs1 i := fun j G hj ej b hb i hi hbi => by
      obtain ⟨n, e, hn, ef, o⟩ := ownI i hi
      exact (o.pt b (by rw [reg2 hn]; exact hbi)).2.2 j G (fun z => hj (z ▸ hi)) ej hb
    have kp : ∀ j G, j ∉ ioS ks → Fs1[j]? = some G → ∀ b ∈ G, ∀ o, H1 b = some o → H2 b = some o := fun j G hj ej b hb o e => post.keep b o e (notM b (apart j G hj ej b hb))
    have inM2 : ∀ i ∈ ioS ks, ∀ G, Fs2[i]? = some G → G ∈ Ms2 ∧ (∀ b ∈ G, H1 b = none ∨ b ∈ fF Fs1 i) := fun i hi G e => by
      obtain ⟨_, _, G', _, _, e3, e4, _, e6⟩ := q.at_ i hi
      rw [e3] at e; cases e
      exact ⟨e4, e6⟩
    have cross : ∀ j G, j ∉ ioS ks → Fs1[j]? = some G → ∀ i ∈ ioS ks, ∀ L, Fs2[i]? = some L → ∀ b ∈ G, b ∉ L := fun j G hj ej i hi L eL b hb hbL => by
      rcases (inM2 i hi L eL).2 b hbL with z | z
      · obtain ⟨o, e⟩ := S1.fp ej b hb
        rw [z] at e; cases e
      · exact apart j G hj ej b hb i hi z
    have S2 : SI P fl1 σ env' H2 Fs2 := by
      refine ⟨by rw [S1.l1, q.le], by rw [S1.l2, q.le], by rw [q.lf, S1.l3, q.le], fun i d' e => ?_, fun i e => ?_, fun i n G e eG => ?_, fun b o e hb => post.keep b o (S1.frm b o e hb) (frmM b o e hb), fun b hb => ?_, S1.vi⟩
      · by_cases hi : i ∈ ioS ks
        · obtain ⟨d2, v2, G, a, b, c, _, rp, _⟩ := q.at_ i hi
          rw [a] at e; cases e
          exact ⟨v2, G, b, c, rp⟩
        · obtain ⟨a, b⟩ := q.out i hi
          rw [a] at e
          obtain ⟨v2, G, h1, h2, h3⟩ := S1.rep i d' e
          exact ⟨v2, G, h1, by rw [b]; exact h2, h3.keep (kp i G hi h2)⟩
      · by_cases hi : i ∈ ioS ks
        · obtain ⟨d2, v2, G, a, _⟩ := q.at_ i hi
          rw [a] at e; cases e
        · obtain ⟨a, b⟩ := q.out i hi
          rw [b]; rw [a] at e
          exact S1.nul i e
      · by_cases hi : i ∈ ioS ks
        · obtain ⟨n', en, hn, ef, o⟩ := ownI i hi
          rw [e] at en; cases en
          obtain ⟨hG, hGb⟩ := inM2 i hi G eG
          have ndG : G.Nodup := post.nd.sublist (List.sublist_flatten_of_mem hG)
          refine ⟨fun _ => ndG, fun z => by omega, fun b hb => ?_, fun hn3 b hb => ?_⟩
          · rw [reg2 hn] at hb
            refine ⟨?_, post.live G hG b hb, fun j L hj ej hbL => ?_⟩
            · rcases hGb b hb with z | z
              · exact .inl (S1.new z)
              · exact (o.pt b (by rw [reg2 hn]; exact z)).1
            · by_cases hj' : j ∈ ioS ks
              · exact q.dj i hi j hj' (Ne.symm hj) G L eG ej b hb hbL
              · rw [(q.out j hj').2] at ej
                exact cross j L hj' ej i hi G eG b hbL hb
          · rcases hGb b hb with z | z
            · exact .inl (S1.new z)
            · exact o.bas hn3 b z
        · rw [(q.out i hi).2] at eG
          have o := S1.own i n G e eG
          refine ⟨o.nd, o.rt, fun b hb => ?_, o.bas⟩
          obtain ⟨o1, o2, o3⟩ := o.pt b hb
          refine ⟨o1, o2.keep (kp i G hi eG b (reg_sub b hb)), fun j L hj ej => ?_⟩
          by_cases hj' : j ∈ ioS ks
          · exact cross i G hi eG j hj' L ej b (reg_sub b hb)
          · rw [(q.out j hj').2] at ej
            exact o3 j L hj ej
      · obtain ⟨o, e⟩ := S1.mm b hb
        exact post.there b o e
    have st2 : Step lv fl1 H1 Fs1 H2 Fs2 := by
      have fr' : ∀ i ∈ ioS ks, Free fl1 lv i := fun i hi => by
        obtain ⟨⟨n, e, hn⟩, h2, _⟩ := hs i hi
        exact ⟨n, e, hn, h2⟩
      refine ⟨fun b o e hb => post.keep b o e (notM b fun i hi => hb i _ (fr' i hi) (ownI i hi).choose_spec.2.2.1), fun i hi => (q.out i fun z => hi (fr' i z)).2, fun i G e b hb => ?_, post.there⟩
      by_cases hi : i ∈ ioS ks
      · rcases (inM2 i hi G e).2 b hb with z | z
        · exact .inr z
        · exact .inl ⟨i, _, (ownI i hi).choose_spec.2.2.1, z, .inl rfl⟩
      · rw [(q.out i hi).2] at e
        exact .inl ⟨i, G, e, hb, .inl rfl⟩
    have offM : ∀ b ∈ F2, ∀ i ∈ ioS ks, ∀ G, Fs2[i]? = some G → b ∉ G := fun b hb i hi G e => (post.org b hb).1 G (inM2 i hi G e).1
    refine hQ v F2 H2 Fs2 S2 (st.trans st2 h.1 fun _ z => z) post.rp ?_ fun b hb => ?_
    · cases fr with
      | true =>
        obtain ⟨n1, n2⟩ := post.fresh rfl
        refine ⟨fun b hb => .inr ⟨S1.new (n2 b hb).1, fun j G e hG => ?_⟩, fun _ => ⟨n1, fun b hb => (n2 b hb).2⟩, (fun _ e => by cases e), (fun _ e => by cases e)⟩
        by_cases hj : j ∈ ioS ks
        · exact offM b hb j hj G e hG
        · rw [(q.out j hj).2] at e
          obtain ⟨o, eo⟩ := S1.fp e b hG
          rw [(n2 b hb).1] at eo; cases eo
      | false =>
        refine ⟨fun b hb => ?_, (fun e => by cases e), (fun _ e => by cases e), (fun _ e => by cases e)⟩
        have off : H1 b = none ∨ (∀ j G, Fs1[j]? = some G → b ∉ G) → ∀ j G, Fs2[j]? = some G → b ∉ G := fun z j G e hG => by
          by_cases hj : j ∈ ioS ks
          · exact offM b hb j hj G e hG
          · rw [(q.out j hj).2] at e
            rcases z with z | z
            · obtain ⟨o, eo⟩ := S1.fp e b hG
              rw [z] at eo; cases eo
            · exact z j G e hG
        rcases (post.org b hb).2 with z | z
        · exact .inr ⟨S1.new z, off (.inl z)⟩
        · rcases tk.pt b z with ⟨i, G, h1, h2, h3⟩ | ⟨h1, h2⟩
          · exact .inl ⟨i, G, h1, by rw [(q.out i fun w => (hs i w).2.2 h1).2]; exact h2, h3⟩
          · exact .inr ⟨h1, off (.inr h2)⟩
    · rcases (post.org b hb).2 with z | z
      · exact .inl (st.back0 z)
      · cases fr with
        | true =>
          have z' := ((post.fresh rfl).2 b hb).1
          exact .inl (st.back0 z')
        | false => exact (og.weak (al' := AL.mixed false al) fun e => by cases e) b z
end
end VL
/-! V5: statements. -/
namespace VL
open PySem PySem.Spec L2
variable {K : PySem.W.Frag}
inductive Out where
  | nx | rt (d : D) | bk | ct
abbrev Sv := Env → Res Out
/-- what a statement may change: what the slots own, but for those of lv -/
structure SStep (lv fl : List Nat) (H : Hp) (Fs : List (List Addr)) (fl' : List Nat) (H' : Hp) (Fs' : List (List Addr)) : Prop where
  keep : ∀ b o, H b = some o → (∀ (j n : Nat) (F : List Addr), j ∉ lv → fl[j]? = some n → Fs[j]? = some F → b ∉ reg n F) → H' b = some o
  regs : ∀ (j n' : Nat) (F' : List Addr), fl'[j]? = some n' → Fs'[j]? = some F' → ∀ b ∈ reg n' F', H b = none ∨ ∃ (k n : Nat) (F : List Addr), ((j ∉ lv ∧ k ∉ lv) ∨ k = j) ∧ fl[k]? = some n ∧ Fs[k]? = some F ∧ b ∈ reg n F
  there : ∀ b o, H b = some o → ∃ o', H' b = some o'
/-- behind a return -/
structure Ret (P : Cz) (io : List Nat) (fr : Bool) (env' : Env) (H' : Hp) (v : V) (d : D) : Prop where
  at_ : ∃ (fl : List Nat) (σ : L2.St) (Fs : List (List Addr)) (al : AL) (F : List Addr), SI P fl σ env' H' Fs ∧ Rp P.K H' v d F ∧ TOK P.H0 al H' Fs F ∧ (∀ i ∈ io, fl[i]? = some 3) ∧ (fr = true → al = .own) ∧ ∀ i ∈ al.slots, fl[i]? ≠ some 3
/-- what is fixed for a def's statements: the changed parameters, whether the answer is new -/
structure Fz where
  io : List Nat
  fr : Bool
def RS (P : Cz) (Z : Fz) (lv fl : List Nat) (ts : TS) (sv : Sv) (L fl' : List Nat) : Prop :=
  ∀ (σ : L2.St) (env : Env) (H : Hp) (Fs : List (List Addr)) (r : Rs Out) (env' : Env), SI P fl σ env H Fs → sv env = some (r, env') → ∀ Dn : Ends,
    WE P r (fun o => match o with
      | .nx => ∀ (σ' : L2.St) (H' : Hp) (Fs' : List (List Addr)), SI P fl' σ' env' H' Fs' → SStep lv fl H Fs fl' H' Fs' → Dn.nx σ' H'
      | .bk => ∀ (σ' : L2.St) (H' : Hp) (Fs' : List (List Addr)), SI P L σ' env' H' Fs' → SStep lv fl H Fs L H' Fs' → Dn.bk σ' H'
      | .ct => ∀ (σ' : L2.St) (H' : Hp) (Fs' : List (List Addr)), SI P L σ' env' H' Fs' → SStep lv fl H Fs L H' Fs' → Dn.ct σ' H'
      | .rt d => ∀ (v : V) (H' : Hp), Ret P Z.io Z.fr env' H' v d → Dn.rt v H') → ts Dn σ H
section
variable {P : Cz} {Z : Fz} {fl fl1 fl2 lv L : List Nat} {σ : L2.St} {env env' : Env} {H H' H1 H2 : Hp} {Fs Fs1 Fs2 Fs' : List (List Addr)}
theorem SStep.refl : SStep lv fl H Fs fl H Fs := ⟨fun _ _ e _ => e, fun j n F e1 e2 b hb => .inr ⟨j, n, F, .inr rfl, e1, e2, hb⟩, fun b o e => ⟨o, e⟩⟩
theorem SStep.trans (a : SStep lv fl H Fs fl1 H1 Fs1) (b : SStep lv fl1 H1 Fs1 fl2 H2 Fs2) : SStep lv fl H Fs fl2 H2 Fs2 := by
  have back : ∀ c, H1 c = none → H c = none := fun c e => by
    cases q : H c with
    | none => rfl
    | some o =>
      obtain ⟨o', h⟩ := a.there c o q
      rw [e] at h; cases h
  refine ⟨fun c o e hc => ?_, fun j n F e1 e2 c hc => ?_, fun c o e => ?_⟩
  · refine b.keep c o (a.keep c o e hc) fun j n F hj e1 e2 hm => ?_
    rcases a.regs j n F e1 e2 c hm with z | ⟨k, m, G, hk, e3, e4, hG⟩
    · rw [e] at z; cases z
    · refine hc k m G ?_ e3 e4 hG
      rcases hk with ⟨_, hk⟩ | rfl
      · exact hk
      · exact hj
  · rcases b.regs j n F e1 e2 c hc with z | ⟨k, m, G, hk, e3, e4, hG⟩
    · exact .inl (back c z)
    · rcases a.regs k m G e3 e4 c hG with z | ⟨k2, m2, G2, hk2, e5, e6, hG2⟩
      · exact .inl z
      · refine .inr ⟨k2, m2, G2, ?_, e5, e6, hG2⟩
        rcases hk with ⟨h1, h2⟩ | rfl
        · rcases hk2 with ⟨_, h3⟩ | rfl
          · exact .inl ⟨h1, h3⟩
          · exact .inl ⟨h1, h2⟩
        · exact hk2
  · obtain ⟨o1, e1⟩ := a.there c o e
    exact b.there c o1 e1
/-- an expression's step -/
theorem Step.s (S : SI P fl1 σ env H1 Fs1) (s : Step lv fl H Fs H1 Fs1) (sf : SubF fl1 fl) : SStep lv fl H Fs fl1 H1 Fs1 := by
  refine ⟨fun b o e hb => s.keep b o e fun i F f eF hm => ?_, fun j n F e1 e2 b hb => ?_, s.there⟩
  · obtain ⟨n, en, hn, hl⟩ := f
    exact hb i n F hl en eF (by rw [reg2 hn]; exact hm)
  · have fin : ∀ k G, Fs[k]? = some G → b ∈ G → Free fl lv k → j ∉ lv → H b = none ∨ ∃ (k n : Nat) (F : List Addr), ((j ∉ lv ∧ k ∉ lv) ∨ k = j) ∧ fl[k]? = some n ∧ Fs[k]? = some F ∧ b ∈ reg n F := fun k G e hG f hj => by
      obtain ⟨n, en, hn, hl⟩ := f
      exact .inr ⟨k, n, G, .inl ⟨hj, hl⟩, en, e, by rw [reg2 hn]; exact hG⟩
    by_cases hj : j ∈ lv
    · have e : Fs[j]? = some F := by
        rw [← s.same j fun f => by
          obtain ⟨_, _, _, q⟩ := f
          exact q hj]
        exact e2
      by_cases h2 : 2 ≤ n
      · exact .inr ⟨j, n, F, .inr rfl, (sf j n e1).1 h2, e, hb⟩
      · by_cases h1 : n = 1
        · obtain ⟨m, em, hm⟩ := (sf j n e1).2 h1
          exact .inr ⟨j, m, F, .inr rfl, em, e, by
            subst h1
            cases F with
            | nil => exact nomatch (reg_sub b hb)
            | cons a G =>
              have : b = a := by simpa [reg] using hb
              rw [this]
              exact reg1 hm⟩
        · have : n = 0 := by omega
          subst this
          cases hb
    by_cases h2 : 2 ≤ n
    · have f : Free fl lv j := ⟨n, (sf j n e1).1 h2, h2, hj⟩
      rcases s.new j F e2 b (reg_sub b hb) with ⟨k, G, ek, hG, hk⟩ | z
      · rcases hk with rfl | hk
        · exact fin _ G ek hG f hj
        · exact fin _ G ek hG hk hj
      · exact .inl z
    · by_cases h1 : n = 1
      · obtain ⟨m, em, hm⟩ := (sf j n e1).2 h1
        by_cases hm2 : 2 ≤ m
        · have f : Free fl lv j := ⟨m, em, hm2, hj⟩
          rcases s.new j F e2 b (reg_sub b hb) with ⟨k, G, ek, hG, hk⟩ | z
          · rcases hk with rfl | hk
            · exact fin _ G ek hG f hj
            · exact fin _ G ek hG hk hj
          · exact .inl z
        · have hm1 : m = 1 := by omega
          subst hm1 h1
          have e : Fs[j]? = some F := by
            rw [← s.same j fun f => by
              obtain ⟨n, en, hn, _⟩ := f
              rw [em] at en; cases en; omega]
            exact e2
          exact .inr ⟨j, 1, F, .inr rfl, em, e, hb⟩
      · have : n = 0 := by omega
        subst this
        cases hb
theorem reg_mono {n n' : Nat} {F : List Addr} (h : n' ≤ n) : ∀ b ∈ reg n' F, b ∈ reg n F := fun b hb => by
  unfold reg at hb ⊢
  split at hb
  · cases hb
  · rw [if_neg (by omega)]
    split at hb
    · split
      · exact hb
      · exact List.mem_of_mem_take hb
    · rw [if_neg (by omega)]
      exact hb
theorem SStep.weak (s : SStep lv fl H Fs fl1 H1 Fs1) (h : flLe fl2 fl1 = true) : SStep lv fl H Fs fl2 H1 Fs1 :=
  ⟨s.keep, fun j n F e1 e2 b hb => by
    obtain ⟨m, em, h'⟩ := (flLe_at h).2 j n e1
    refine s.regs j m F em e2 b (reg_mono ?_ b hb)
    rcases h' with rfl | ⟨rfl, _⟩ | ⟨rfl, _, _⟩ <;> omega, s.there⟩
theorem SStep.toLv {lv' : List Nat} (s : SStep lv' fl H Fs fl1 H1 Fs1) (h : ∀ i ∈ lv, i ∈ lv') : SStep lv fl H Fs fl1 H1 Fs1 :=
  ⟨fun b o e hb => s.keep b o e fun j n F hj => hb j n F fun z => hj (h j z), fun j n F e1 e2 b hb => (s.regs j n F e1 e2 b hb).imp (fun z => z) fun ⟨k, m, G, hk, r⟩ => ⟨k, m, G, hk.imp (fun ⟨a, c⟩ => ⟨fun z => a (h j z), fun z => c (h k z)⟩) fun z => z, r⟩, s.there⟩
theorem rs_weak {ts : TS} {sv : Sv} (h : RS P Z lv fl ts sv L fl1) (k : flLe fl2 fl1 = true) : RS P Z lv fl ts sv L fl2 := fun σ env H Fs r env' S he Dn hQ => h σ env H Fs r env' S he Dn (hQ.imp fun o _ q => by
  cases o with
  | nx => exact fun σ' H' Fs' S' st => q σ' H' Fs' (S'.weak k) (st.weak k)
  | rt d => exact q
  | bk => exact q
  | ct => exact q)
/-- stronger flags ahead -/
theorem rs_pre {ts : TS} {sv : Sv} (h : RS P Z lv fl1 ts sv L fl2) (k : flLe fl1 fl = true) : RS P Z lv fl ts sv L fl2 := fun σ env H Fs r env' S he Dn hQ => by
  have st0 : SStep lv fl H Fs fl1 H Fs := (SStep.refl (fl := fl)).weak k
  refine h σ env H Fs r env' (S.weak k) he Dn (hQ.imp fun o _ q => ?_)
  cases o with
  | nx => exact fun σ' H' Fs' S' st => q σ' H' Fs' S' (st0.trans st)
  | rt d => exact q
  | bk => exact fun σ' H' Fs' S' st => q σ' H' Fs' S' (st0.trans st)
  | ct => exact fun σ' H' Fs' S' st => q σ' H' Fs' S' (st0.trans st)
/-! ### blocks -/
def bSeq (b : Sv) (o : Out) (e : Env) : Res Out := match o with
  | .nx => b e
  | o => some (.ok o, e)
@[simp] theorem bSeq_nx (b : Sv) (e : Env) : bSeq b .nx e = b e := rfl
@[simp] theorem bSeq_rt (b : Sv) (d : D) (e : Env) : bSeq b (.rt d) e = some (.ok (.rt d), e) := rfl
@[simp] theorem bSeq_bk (b : Sv) (e : Env) : bSeq b .bk e = some (.ok .bk, e) := rfl
@[simp] theorem bSeq_ct (b : Sv) (e : Env) : bSeq b .ct e = some (.ok .ct, e) := rfl
def sSeq (a b : Sv) : Sv := fun env => bindM (a env) (bSeq b)
def sNil : Sv := fun env => some (.ok .nx, env)
theorem rs_nil : RS P Z lv fl tNext sNil L fl := fun σ env H Fs r env' S he Dn hQ => by
  cases he
  exact hQ σ H Fs S SStep.refl
theorem rs_seq {t u : TS} {a b : Sv} (h : RS P Z lv fl t a L fl1) (h2 : RS P Z lv fl1 u b L fl2) : RS P Z lv fl (tSeq t u) (sSeq a b) L fl2 := fun σ env H Fs r env' S he Dn hQ => by
  unfold sSeq at he
  cases q : a env with
  | none => rw [q] at he; cases he
  | some p =>
    obtain ⟨r1, e1⟩ := p
    rw [q] at he
    refine h σ env H Fs r1 e1 S q _ ?_
    cases r1 with
    | ex x => cases he; exact hQ
    | ok o =>
      cases o with
      | nx =>
        intro σ' H' Fs' S' st
        refine h2 σ' e1 H' Fs' r env' S' he Dn (hQ.imp fun o _ q => ?_)
        cases o with
        | nx => exact fun σ2 H2 Fs2 S2 st2 => q σ2 H2 Fs2 S2 (st.trans st2)
        | rt d => exact q
        | bk => exact fun σ2 H2 Fs2 S2 st2 => q σ2 H2 Fs2 S2 (st.trans st2)
        | ct => exact fun σ2 H2 Fs2 S2 st2 => q σ2 H2 Fs2 S2 (st.trans st2)
      | rt d => cases he; exact hQ
      | bk => cases he; exact hQ
      | ct => cases he; exact hQ
def sBreak : Sv := fun env => some (.ok .bk, env)
def sCont : Sv := fun env => some (.ok .ct, env)
theorem rs_break (h : flLe L fl = true) : RS P Z lv fl tBreak sBreak L fl2 := fun σ env H Fs r env' S he Dn hQ => by
  cases he
  exact hQ σ H Fs (S.weak h) (SStep.refl.weak h)
theorem rs_cont (h : flLe L fl = true) : RS P Z lv fl tCont sCont L fl2 := fun σ env H Fs r env' S he Dn hQ => by
  cases he
  exact hQ σ H Fs (S.weak h) (SStep.refl.weak h)
theorem rs_never {sv : Sv} (h : ∀ env, sv env = none) : RS P Z lv fl tNever sv L fl2 := fun σ env H Fs r env' S he Dn hQ => by
  rw [h] at he; cases he
def sDrop (ev : Ev) : Sv := fun env => bindM (ev env) fun _ e => some (.ok .nx, e)
theorem rs_drop {te : TE} {ev : Ev} {al : AL} (h : RE P lv fl te ev al fl1) : RS P Z lv fl (tDrop te) (sDrop ev) L fl1 := fun σ env H Fs r env' S he Dn hQ => by
  refine h.bind S he hQ.ex _ fun d e1 q he v F H' Fs' S' st rp tk og => ?_
  cases he
  exact hQ σ H' Fs' S' (st.s S' h.1)
def sIf (tv : Tv) (a b : Sv) : Sv := fun env => bindM (tv env) fun c e => cIf c (a e) (b e)
theorem rs_if {tc : TT} {tv : Tv} {t u : TS} {a b : Sv} (hc : RT P lv fl tc tv fl1) (ha : RS P Z lv fl1 t a L fl2) (hb : RS P Z lv fl1 u b L fl2) : RS P Z lv fl (tIfS tc t u) (sIf tv a b) L fl2 := fun σ env H Fs r env' S he Dn hQ => by
  refine hc.bind S he hQ.ex _ fun c e1 he H' Fs' S' st => ?_
  have st' := st.s S' hc.1
  have go : ∀ {ts : TS} {sv : Sv}, RS P Z lv fl1 ts sv L fl2 → sv e1 = some (r, env') → ts Dn σ H' := fun {ts sv} hs he => by
    refine hs σ e1 H' Fs' r env' S' he Dn (hQ.imp fun o _ q => ?_)
    cases o with
    | nx => exact fun σ2 H2 Fs2 S2 st2 => q σ2 H2 Fs2 S2 (st'.trans st2)
    | rt d => exact q
    | bk => exact fun σ2 H2 Fs2 S2 st2 => q σ2 H2 Fs2 S2 (st'.trans st2)
    | ct => exact fun σ2 H2 Fs2 S2 st2 => q σ2 H2 Fs2 S2 (st'.trans st2)
  cases c with
  | true => rw [if_pos rfl]; exact go ha he
  | false => rw [if_neg (by decide)]; exact go hb he
/-! ### return -/
def sRet (ev : Ev) : Sv := fun env => bindM (ev env) fun d e => some (.ok (.rt d), e)
def retOk (Z : Fz) (fl : List Nat) (al : AL) : Bool :=
  Z.io.all (fun i => fl[i]? == some 3) && (!Z.fr || (match al with | .own => true | _ => false)) && al.slots.all fun i => !(fl[i]? == some 3)
theorem retOk_of {al : AL} (h : retOk Z fl al = true) : (∀ i ∈ Z.io, fl[i]? = some 3) ∧ (Z.fr = true → al = .own) ∧ ∀ i ∈ al.slots, fl[i]? ≠ some 3 := by
  simp only [retOk, Bool.and_eq_true, List.all_eq_true] at h
  obtain ⟨⟨h1, h2⟩, h3⟩ := h
  refine ⟨fun i hi => by simpa using h1 i hi, fun e => ?_, fun i hi => by simpa using h3 i hi⟩
  rw [e] at h2
  cases al <;> first | rfl | cases h2
theorem rs_ret {te : TE} {ev : Ev} {al : AL} (h : RE P lv fl te ev al fl1) (hr : retOk Z fl1 al = true := by rfl) : RS P Z lv fl (tRet te) (sRet ev) L fl2 := fun σ env H Fs r env' S he Dn hQ => by
  refine h.bind S he hQ.ex _ fun d e1 q he v F H' Fs' S' st rp tk og => ?_
  cases he
  obtain ⟨a, b, c⟩ := retOk_of hr
  exact hQ v H' ⟨fl1, σ, Fs', al, F, S', rp, tk, a, b, c⟩
def sRetN : Sv := fun env => some (.ok (.rt .non), env)
theorem rs_retN (hr : retOk Z fl .own = true := by rfl) : RS P Z lv fl tRetN sRetN L fl2 := fun σ env H Fs r env' S he Dn hQ => by
  cases he
  obtain ⟨a, b, c⟩ := retOk_of hr
  exact hQ .non H ⟨fl, σ, Fs, .own, [], S, .non, TOK.nilOwn, a, b, c⟩
/-- a way that the proof never comes to, whatever its flags -/
theorem rs_skip {ts : TS} {sv : Sv} (h : RS P Z lv fl ts sv L fl1) (hn : ∀ env e, sv env ≠ some (.ok .nx, e)) : RS P Z lv fl ts sv L fl2 := fun σ env H Fs r env' S he Dn hQ => by
  refine h σ env H Fs r env' S he Dn (hQ.imp fun o e q => ?_)
  cases o with
  | nx => subst e; exact absurd he (hn env env')
  | rt d => exact q
  | bk => exact q
  | ct => exact q
end
end VL
/-! V6: stores into names. -/
namespace VL
open PySem PySem.Spec L2
variable {K : PySem.W.Frag}
def dm (al : AL) (i n : Nat) : Nat := match al with
  | .own => n
  | .var j => if i == j then 0 else n
  | .sub j => if i == j && decide (2 ≤ n) then 1 else n
  | .mix l => if l.contains i then 0 else n
def dmF (al : AL) : Nat → List Nat → List Nat
  | _, [] => []
  | i, n :: r => dm al i n :: dmF al (i + 1) r
theorem dmF_get (al : AL) : ∀ (fl : List Nat) (k i : Nat), (dmF al k fl)[i]? = (fl[i]?).map (dm al (k + i))
  | [], k, i => by simp [dmF]
  | n :: r, k, 0 => by simp [dmF]
  | n :: r, k, i + 1 => by
    simp only [dmF, List.getElem?_cons_succ]
    rw [dmF_get al r (k + 1) i, show k + 1 + i = k + (i + 1) by omega]
theorem dmF_length (al : AL) : ∀ (fl : List Nat) (k : Nat), (dmF al k fl).length = fl.length
  | [], _ => rfl
  | _ :: r, k => by simp [dmF, dmF_length al r]
/-- the slots that a value's things stand in own less -/
def demote (al : AL) (fl : List Nat) : List Nat := dmF al 0 fl
def demOk (al : AL) (fl : List Nat) : Bool := al.slots.all fun i => !(fl[i]? == some 3)
section
variable {P : Cz} {Z : Fz} {fl fl1 fl2 lv L : List Nat} {σ : L2.St} {env env' : Env} {H H' H1 H2 : Hp} {Fs Fs1 Fs2 Fs' : List (List Addr)}
theorem demote_get {al : AL} {i n' : Nat} (h : (demote al fl)[i]? = some n') : ∃ n, fl[i]? = some n ∧ n' = dm al i n := by
  unfold demote at h
  rw [dmF_get] at h
  cases e : fl[i]? with
  | none => rw [e] at h; cases h
  | some n =>
    rw [e] at h
    simp only [Option.map_some, Nat.zero_add, Option.some.injEq] at h
    exact ⟨n, rfl, h.symm⟩
theorem dm_rel {al : AL} (hd : demOk al fl = true) {i n : Nat} (e : fl[i]? = some n) : dm al i n = n ∨ (dm al i n = 0 ∧ n ≠ 3) ∨ (dm al i n = 1 ∧ 2 ≤ n ∧ n ≠ 3) := by
  have h3 : i ∈ al.slots → n ≠ 3 := fun hi z => by
    have := List.all_eq_true.mp hd i hi
    rw [e, z] at this
    simp at this
  unfold dm
  cases al with
  | own => exact .inl rfl
  | var j =>
    simp only
    split
    · rename_i h
      have : i = j := by simpa using h
      exact .inr (.inl ⟨rfl, h3 (by rw [this]; simp [AL.slots])⟩)
    · exact .inl rfl
  | sub j =>
    simp only
    split
    · rename_i h
      simp only [Bool.and_eq_true, beq_iff_eq, decide_eq_true_eq] at h
      exact .inr (.inr ⟨rfl, h.2, h3 (by rw [h.1]; simp [AL.slots])⟩)
    · exact .inl rfl
  | mix l =>
    simp only
    split
    · rename_i h
      exact .inr (.inl ⟨rfl, h3 (by simpa [AL.slots] using h)⟩)
    · exact .inl rfl
theorem dm_le {al : AL} {i n : Nat} : dm al i n ≤ n := by
  unfold dm
  cases al <;> simp only <;> first | omega | (split <;> first | omega | (rename_i h; simp at h; omega))
theorem SI.demote {al : AL} (S : SI P fl σ env H Fs) (hd : demOk al fl = true) : SI P (demote al fl) σ env H Fs := by
  refine ⟨S.l1, ?_, S.l3, S.rep, S.nul, fun i n F a b => ?_, S.frm, S.mm, fun i z => ?_⟩
  · show (dmF al 0 fl).length = _
    rw [dmF_length]
    exact S.l2
  · obtain ⟨m, e1, rfl⟩ := demote_get a
    exact (S.own i m F e1 b).weak (dm_rel hd e1)
  · obtain ⟨m, e1, e2⟩ := demote_get z
    refine S.vi i ?_
    rcases dm_rel hd e1 with h | ⟨h, h'⟩ | ⟨h, h', _⟩
    · rw [e1]; congr 1; omega
    · omega
    · omega
/-- apart from all that the slots own -/
def Sep (fl : List Nat) (Fs : List (List Addr)) (F : List Addr) : Prop := ∀ (j n : Nat) (G : List Addr), fl[j]? = some n → Fs[j]? = some G → ∀ b ∈ reg n G, b ∉ F
theorem TOK.sep {al : AL} {F : List Addr} (S : SI P fl σ env H Fs) (t : TOK P.H0 al H Fs F)  : Sep (VL.demote al fl) Fs F := fun j n' G e1 e2 b hb hF => by
  obtain ⟨n, en, rfl⟩ := demote_get e1
  have hb' : b ∈ reg n G := reg_mono dm_le b hb
  have o := S.own j n G en e2
  rcases t.pt b hF with ⟨i, L, hi, eL, hL⟩ | ⟨_, h⟩
  · by_cases hij : i = j
    · subst hij
      rw [e2] at eL; cases eL
      -- what is left of the slot's own part
      cases al with
      | own => cases hi
      | var k =>
        have : k = i := by simpa [AL.slots, eq_comm] using hi
        subst this
        simp [dm, reg] at hb
      | sub k =>
        have : k = i := by simpa [AL.slots, eq_comm] using hi
        subst this
        obtain ⟨a, G', e3, hs⟩ := t.sub k rfl
        rw [e2] at e3
        obtain rfl : G = a :: G' := Option.some.inj e3
        have hbG : b ∈ G' := hs.subset hF
        by_cases h2 : 2 ≤ n
        · have e : dm (.sub k) k n = 1 := by simp [dm, h2]
          rw [e] at hb
          have : b = a := by simpa [reg] using hb
          subst this
          exact (List.nodup_cons.mp (o.nd h2)).1 hbG
        · have e : dm (.sub k) k n = n := by simp [dm, h2]
          rw [e] at hb
          by_cases h0 : n = 0
          · subst h0; cases hb
          · have h1 : n = 1 := by omega
            subst h1
            have : b = a := by simpa [reg] using hb
            subst this
            exact o.rt rfl b G' rfl hbG
      | mix l =>
        have : l.contains i = true := by simpa [AL.slots] using hi
        simp only [dm, this, if_true] at hb
        cases hb
    · exact (o.pt b hb').2.2 i L hij eL hL
  · exact h j G e2 (reg_sub b hb')
/-- a store into a slot: n what the slot owns from now on -/
theorem SI.put {i n m : Nat} {v : V} {d : D} {F : List Addr} (S : SI P fl σ env H Fs) (hi : fl[i]? = some m) (h3 : m ≠ 3) (hn : n ≠ 3) (rp : Rp P.K H v d F) (sep : ∀ (j n : Nat) (G : List Addr), j ≠ i → fl[j]? = some n → Fs[j]? = some G → ∀ b ∈ reg n G, b ∉ F)
    (on : OwnAt P H (Fs.set i F) i n F) : SI P (fl.set i n) (σ.set i (some v)) (env.set i (some d)) H (Fs.set i F) := by
  have li : i < fl.length := (List.getElem?_eq_some_iff.mp hi).1
  have le : i < env.length := by rw [← S.l2]; exact li
  have lf : i < Fs.length := by rw [S.l3]; exact le
  have ls : i < σ.length := by rw [S.l1]; exact le
  refine ⟨by simp [S.l1], by simp [S.l2], by simp [S.l3], fun j d' e => ?_, fun j e => ?_, fun j k G e eG => ?_, S.frm, S.mm, fun j e => ?_⟩
  · by_cases hj : j = i
    · subst hj
      rw [List.getElem?_set_self le] at e
      cases e
      exact ⟨v, F, List.getElem?_set_self ls, List.getElem?_set_self lf, rp⟩
    · rw [List.getElem?_set_ne (Ne.symm hj)] at e
      obtain ⟨w, G, h1, h2, h4⟩ := S.rep j d' e
      exact ⟨w, G, by rw [List.getElem?_set_ne (Ne.symm hj)]; exact h1, by rw [List.getElem?_set_ne (Ne.symm hj)]; exact h2, h4⟩
  · by_cases hj : j = i
    · subst hj
      rw [List.getElem?_set_self le] at e
      cases e
    · rw [List.getElem?_set_ne (Ne.symm hj)] at e ⊢
      exact S.nul j e
  · by_cases hj : j = i
    · subst hj
      rw [List.getElem?_set_self li] at e
      rw [List.getElem?_set_self lf] at eG
      cases e; cases eG
      exact on
    · rw [List.getElem?_set_ne (Ne.symm hj)] at e eG
      have o := S.own j k G e eG
      refine ⟨o.nd, o.rt, fun b hb => ?_, o.bas⟩
      obtain ⟨o1, o2, o3⟩ := o.pt b hb
      refine ⟨o1, o2, fun l L hl el => ?_⟩
      by_cases hli : l = i
      · subst hli
        rw [List.getElem?_set_self lf] at el
        cases el
        exact sep j k G hj e eG b hb
      · rw [List.getElem?_set_ne (Ne.symm hli)] at el
        exact o3 l L hl el
  · by_cases hj : j = i
    · subst hj
      rw [List.getElem?_set_self li] at e
      cases e
      exact absurd rfl hn
    · rw [List.getElem?_set_ne (Ne.symm hj)] at e ⊢
      exact S.vi j e
theorem own0 {i : Nat} {F : List Addr} (h : ∀ b ∈ F, P.H0 b = none ∨ b ∈ P.B) : OwnAt P H Fs i 0 F := ⟨fun z => by omega, fun z => by omega, fun b hb => (nomatch hb), fun _ => h⟩
/-- several stores, of values that are nobody's (n = 2), or apart from all that is owned (n = 0) -/
def setAll {α : Type} : List α → List Nat → List α → List α
  | l, i :: is, a :: r => setAll (l.set i a) is r
  | l, _, _ => l
def setN (n : Nat) : List Nat → List Nat → List Nat
  | l, i :: is => setN n (l.set i n) is
  | l, [] => l
structure PutsOk (n : Nat) (is : List Nat) (F : List Addr) (Fs Fs' : List (List Addr)) : Prop where
  out : ∀ j, j ∉ is → Fs'[j]? = Fs[j]?
  at_ : ∀ i ∈ is, ∀ G, Fs'[i]? = some G → ∀ b ∈ G, b ∈ F
theorem SI.puts {n : Nat} (hn : n = 0 ∨ n = 2) : ∀ {is : List Nat} {vs : List V} {ds : List D} {F : List Addr} {fl : List Nat} {σ : L2.St} {env : Env} {Fs : List (List Addr)}, SI P fl σ env H Fs → RpL P.K H vs ds F → is.length = ds.length → is.Nodup → (∀ i ∈ is, ∃ m, fl[i]? = some m ∧ m ≠ 3) →
    Sep fl Fs F → (∀ b ∈ F, P.H0 b = none ∨ b ∈ P.B) → (n = 2 → F.Nodup ∧ ∀ b ∈ F, P.H0 b = none ∧ Live H b ∧ ∀ (j : Nat) (G : List Addr), Fs[j]? = some G → b ∉ G) →
    ∃ Fs', SI P (setN n fl is) (setAll σ is (vs.map some)) (setAll env is (ds.map some)) H Fs' ∧ PutsOk n is F Fs Fs'
  | [], _, _, F, fl, σ, env, Fs, S, rl, hl, nd, hi, sep, bas, own => by
    cases rl with
    | nil => exact ⟨Fs, S, ⟨fun _ _ => rfl, fun _ h => (nomatch h)⟩⟩
    | cons _ _ => cases hl
  | i :: is, _, _, _, fl, σ, env, Fs, S, .cons (v := v) (d := d) (F := F) (vs := vs) (ds := ds) (G := G) rp rl, hl, nd, hi, sep, bas, own => by
    obtain ⟨m, e, h3⟩ := hi i List.mem_cons_self
    obtain ⟨ni, nd'⟩ := List.nodup_cons.mp nd
    have li : i < fl.length := (List.getElem?_eq_some_iff.mp e).1
    have lf : i < Fs.length := by rw [S.l3, ← S.l2]; exact li
    have on : OwnAt P H (Fs.set i F) i n F := by
      rcases hn with rfl | rfl
      · exact own0 fun b hb => bas b (List.mem_append_left _ hb)
      · obtain ⟨nF, hF⟩ := own rfl
        refine ⟨fun _ => (List.nodup_append.mp nF).1, fun z => by omega, fun b hb => ?_, fun _ b hb => .inl (hF b (List.mem_append_left _ hb)).1⟩
        obtain ⟨h1, h2, h4⟩ := hF b (List.mem_append_left _ (reg_sub b hb))
        refine ⟨.inl h1, h2, fun j L hj ej => ?_⟩
        rw [List.getElem?_set_ne (Ne.symm hj)] at ej
        exact h4 j L ej
    have S1 := S.put e h3 (by omega : n ≠ 3) rp (fun j k L hj e1 e2 b hb hF => sep j k L e1 e2 b hb (List.mem_append_left _ hF)) on
    obtain ⟨Fs2, S2, q⟩ := SI.puts hn (is := is) S1 rl (by simpa using hl) nd' (fun j hj => by
        obtain ⟨k, ek, h⟩ := hi j (List.mem_cons_of_mem _ hj)
        have : i ≠ j := fun z => ni (z ▸ hj)
        exact ⟨k, by rw [List.getElem?_set_ne this]; exact ek, h⟩)
      (fun j k L e1 e2 b hb hG => by
        by_cases hj : j = i
        · subst hj
          rw [List.getElem?_set_self li] at e1
          rw [List.getElem?_set_self lf] at e2
          cases e1; cases e2
          rcases hn with rfl | rfl
          · cases hb
          · obtain ⟨nF, _⟩ := own rfl
            exact (List.nodup_append.mp nF).2.2 b (reg_sub b hb) b hG rfl
        · rw [List.getElem?_set_ne (Ne.symm hj)] at e1 e2
          exact sep j k L e1 e2 b hb (List.mem_append_right _ hG))
      (fun b hb => bas b (List.mem_append_right _ hb))
      (fun z => by
        obtain ⟨nF, hF⟩ := own z
        refine ⟨(List.nodup_append.mp nF).2.1, fun b hb => ?_⟩
        obtain ⟨h1, h2, h4⟩ := hF b (List.mem_append_right _ hb)
        refine ⟨h1, h2, fun j L ej hL => ?_⟩
        by_cases hj : j = i
        · subst hj
          rw [List.getElem?_set_self lf] at ej
          cases ej
          exact (List.nodup_append.mp nF).2.2 b hL b hb rfl
        · rw [List.getElem?_set_ne (Ne.symm hj)] at ej
          exact h4 j L ej hL)
    refine ⟨Fs2, S2, ⟨fun j hj => ?_, fun j hj L eL b hb => ?_⟩⟩
    · rw [q.out j fun z => hj (List.mem_cons_of_mem _ z), List.getElem?_set_ne]
      exact fun z => hj (by rw [← z]; exact List.mem_cons_self)
    · by_cases hj' : j ∈ is
      · exact List.mem_append_right _ (q.at_ j hj' L eL b hb)
      · rcases List.mem_cons.mp hj with rfl | z
        · rw [q.out j hj', List.getElem?_set_self lf] at eL
          cases eL
          exact List.mem_append_left _ hb
        · exact absurd z hj'
theorem setN_get {n : Nat} : ∀ {is : List Nat} {fl : List Nat} {j n' : Nat}, (setN n fl is)[j]? = some n' → (j ∉ is ∧ fl[j]? = some n') ∨ (j ∈ is ∧ n' = n)
  | [], fl, j, n', h => .inl ⟨List.not_mem_nil, h⟩
  | i :: is, fl, j, n', h => by
    rcases setN_get (is := is) (fl := fl.set i n) h with ⟨h1, h2⟩ | ⟨h1, h2⟩
    · by_cases hj : j = i
      · subst hj
        rw [List.getElem?_set] at h2
        simp only [if_true] at h2
        split at h2
        · cases h2
          exact .inr ⟨List.mem_cons_self, rfl⟩
        · cases h2
      · rw [List.getElem?_set_ne (Ne.symm hj)] at h2
        exact .inl ⟨fun z => (List.mem_cons.mp z).elim hj h1, h2⟩
    · exact .inr ⟨List.mem_cons_of_mem _ h1, h2⟩
/-- a value that is handed to names -/
def AL.n : AL → Nat
  | .own => 2
  | _ => 0
def flPut (al : AL) (fl : List Nat) (is : List Nat) : List Nat := setN al.n (demote al fl) is
def putOk (lv fl : List Nat) (al : AL) (is : List Nat) : Bool :=
  demOk al fl && decide is.Nodup && is.all fun i => (match fl[i]? with | some n => n != 3 | none => false) && !lv.contains i
theorem putOk_of {al : AL} {is : List Nat} (h : putOk lv fl al is = true) : demOk al fl = true ∧ is.Nodup ∧ ∀ i ∈ is, (∃ m, fl[i]? = some m ∧ m ≠ 3) ∧ i ∉ lv := by
  simp only [putOk, Bool.and_eq_true, decide_eq_true_eq, List.all_eq_true] at h
  obtain ⟨⟨h1, h2⟩, h3⟩ := h
  refine ⟨h1, h2, fun i hi => ?_⟩
  obtain ⟨a, b⟩ := h3 i hi
  refine ⟨?_, by simpa using b⟩
  split at a
  · rename_i m e; exact ⟨m, e, by simpa using a⟩
  · cases a
/-- a value (or several) that waits is stored: the whole of what follows an expression -/
theorem puts_all {al : AL} {is : List Nat} {vs : List V} {ds : List D} {F F0 : List Addr} (S1 : SI P fl1 σ env' H' Fs') (sf : SubF fl1 fl) (st : Step lv fl H Fs H' Fs') (rl : RpL P.K H' vs ds F) (hl : is.length = ds.length) (tk : TOK P.H0 al H' Fs' F) (og : Org lv fl H Fs al F) (hk : putOk lv fl1 al is = true) :
    ∃ Fs2, SI P (flPut al fl1 is) (setAll σ is (vs.map some)) (setAll env' is (ds.map some)) H' Fs2 ∧ SStep lv fl H Fs (flPut al fl1 is) H' Fs2 := by
  obtain ⟨hd, nd, hi⟩ := putOk_of hk
  have Sd := S1.demote hd
  have sep := TOK.sep S1 tk
  have hi' : ∀ i ∈ is, ∃ m, (demote al fl1)[i]? = some m ∧ m ≠ 3 := fun i h => by
    obtain ⟨⟨m, e, h3⟩, _⟩ := hi i h
    refine ⟨dm al i m, ?_, ?_⟩
    · unfold demote
      rw [dmF_get, e]
      simp
    · rcases dm_rel hd e with z | ⟨z, _⟩ | ⟨z, _, _⟩ <;> omega
  have bas : ∀ b ∈ F, P.H0 b = none ∨ b ∈ P.B := fun b hb => by
    rcases tk.pt b hb with ⟨j, G, hj, ej, hG⟩ | ⟨h, _⟩
    · have : ∃ n, fl1[j]? = some n := by
        have h := (List.getElem?_eq_some_iff.mp ej).1
        rw [S1.l3, ← S1.l2] at h
        exact ⟨_, List.getElem?_eq_getElem h⟩
      obtain ⟨n, en⟩ := this
      refine (S1.own j n G en ej).bas (fun z => ?_) b hG
      have := List.all_eq_true.mp hd j hj
      rw [en, z] at this
      simp at this
    · exact .inl h
  have hn : al.n = 0 ∨ al.n = 2 := by cases al <;> simp [AL.n]
  obtain ⟨Fs2, S2, q⟩ := SI.puts hn Sd rl hl nd hi' sep bas (fun z => by
    have e : al = .own := by cases al <;> first | rfl | (simp [AL.n] at z)
    subst e
    refine ⟨(tk.own rfl).1, fun b hb => ?_⟩
    rcases tk.pt b hb with ⟨j, G, hj, _⟩ | ⟨h, h'⟩
    · cases hj
    · exact ⟨h, (tk.own rfl).2 b hb, h'⟩)
  refine ⟨Fs2, S2, ?_⟩
  have ss := st.s S1 sf
  refine ⟨ss.keep, fun j n' G e1 e2 b hb => ?_, ss.there⟩
  rcases setN_get e1 with ⟨h1, h2⟩ | ⟨h1, h2⟩
  · rw [q.out j h1] at e2
    obtain ⟨n, en, rfl⟩ := demote_get h2
    exact ss.regs j n G en e2 b (reg_mono dm_le b hb)
  · subst h2
    cases al with
    | own =>
      have hF := q.at_ j h1 G e2 b (reg_sub b hb)
      rcases og b hF with z | ⟨k, L, ek, hL, fr⟩
      · exact .inl z
      · obtain ⟨n, en, h2, hl⟩ := fr rfl
        exact .inr ⟨k, n, L, .inl ⟨(hi j h1).2, hl⟩, en, ek, by rw [reg2 h2]; exact hL⟩
    | var _ => cases hb
    | sub _ => cases hb
    | mix _ => cases hb
/-! ### x = e; a, b = e; a, b = e, f -/
def sSet (i : Nat) (ev : Ev) : Sv := fun env => bindM (ev env) fun d e => some (.ok .nx, e.set i (some d))
theorem rs_set {i : Nat} {te : TE} {ev : Ev} {al : AL} {flx : List Nat} (h : RE P lv fl te ev al fl1) (hk : putOk lv fl1 al [i] = true := by rfl) (hw : flLe flx (flPut al fl1 [i]) = true := by rfl) : RS P Z lv fl (tAsg te (gName i)) (sSet i ev) L flx := fun σ env H Fs r env' S he Dn hQ => by
  refine h.bind S he hQ.ex _ fun d e1 q he v F H' Fs' S' st rp tk og => ?_
  cases he
  obtain ⟨Fs2, S2, s2⟩ := puts_all (is := [i]) (vs := [v]) (ds := [d]) (F := F) (F0 := F) S' h.1 st (by
    have := RpL.cons rp .nil
    rwa [List.append_nil] at this) rfl tk og hk
  exact hQ _ H' Fs2 (S2.weak hw) (s2.weak hw)
def gNames : List Nat → TGs
  | [] => gNil
  | i :: is => gCons (gName i) (gNames is)
theorem gNames_ok {Q : L2.St → Hp → Prop} : ∀ {is : List Nat} {vs : List V} {σ : L2.St}, vs.length = is.length → Q (setAll σ is (vs.map some)) H → gNames is vs σ H Q
  | [], [], σ, _, h => ⟨rfl, h⟩
  | i :: is, v :: vs, σ, hl, h => ⟨v, vs, rfl, gNames_ok (is := is) (by simpa using hl) h⟩
  | [], _ :: _, _, hl, _ => by cases hl
  | _ :: _, [], _, hl, _ => by cases hl
def bUnp (is : List Nat) (d : D) (e : Env) : Res Out := match d with
  | .tup ds => if ds.length = is.length then some (.ok .nx, setAll e is (ds.map some)) else none
  | _ => none
def sUnp (is : List Nat) (ev : Ev) : Sv := fun env => bindM (ev env) (bUnp is)
theorem rs_unp {is : List Nat} {te : TE} {ev : Ev} {al : AL} {flx : List Nat} (h : RE P lv fl te ev al fl1) (hk : putOk lv fl1 al.child is = true := by rfl) (hw : flLe flx (flPut al.child fl1 is) = true := by rfl) : RS P Z lv fl (tAsg te (gTup P.K is.length (gNames is))) (sUnp is ev) L flx := fun σ env H Fs r env' S he Dn hQ => by
  refine h.bind S he hQ.ex _ fun d e1 q he v F H' Fs' S' st rp tk og => ?_
  unfold bUnp at he
  split at he
  · split at he
    · rename_i ds hl
      cases he
      cases rp with
      | @tup a xs _ G rd z rl =>
        have el := rl.length
        refine ⟨a, xs, rfl, SqT.of rd, by omega, gNames_ok (by omega) ?_⟩
        obtain ⟨Fs2, S2, s2⟩ := puts_all (is := is) (vs := xs) (ds := ds) (F := G) (F0 := G) S' h.1 st rl hl.symm (tk.child (List.Sublist.refl _)) (Org.weak (fun b hb => og b (List.mem_cons_of_mem _ hb)) (fun z => by cases al <;> first | rfl | cases z)) hk
        exact hQ _ H' Fs2 (S2.weak hw) (s2.weak hw)
    · cases he
  · cases he
def sPar (i j : Nat) (av : Env → Res (List D)) : Sv := fun env => bindM (av env) fun ds e => match ds with
  | [a, b] => some (.ok .nx, (e.set i (some a)).set j (some b))
  | _ => none
theorem rs_par {i j : Nat} {ta : TA} {av : Env → Res (List D)} {al : AL} {flx : List Nat} (h : RA P lv fl ta av [none, none] al fl1) (hk : putOk lv fl1 al [i, j] = true := by rfl) (hw : flLe flx (flPut al fl1 [i, j]) = true := by rfl) : RS P Z lv fl (tPar i j ta) (sPar i j av) L flx := fun σ env H Fs r env' S he Dn hQ => by
  refine h.bind S he hQ.ex _ fun ds e1 he vs F H' Fs' S' st av tk og => ?_
  obtain ⟨rl, en⟩ := av.rpl rfl
  split at he
  · rename_i a b
    cases he
    obtain ⟨v, w, rfl⟩ : ∃ v w, vs = [v, w] := by
      match vs, en with
      | [v, w], _ => exact ⟨v, w, rfl⟩
    refine ⟨v, w, rfl, ?_⟩
    obtain ⟨Fs2, S2, s2⟩ := puts_all (is := [i, j]) (vs := [v, w]) (ds := [a, b]) (F := F) (F0 := F) S' h.1 st rl rfl tk og hk
    exact hQ _ H' Fs2 (S2.weak hw) (s2.weak hw)
  · cases he
/-! ### a name's value taken for good -/
def eTake (i : Nat) : Ev := fun env => match env[i]? with
  | some (some d) => some (.ok d, env.set i none)
  | _ => none
theorem re_take (i : Nat) (hi : (fl[i]? == some 2 && !lv.contains i) = true := by rfl) : RE P lv fl (tVar i) (eTake i) .own (fl.set i 0) := by
  simp only [Bool.and_eq_true, beq_iff_eq] at hi
  obtain ⟨hf, hv⟩ := hi
  have hv : i ∉ lv := by simpa using hv
  have li : i < fl.length := (List.getElem?_eq_some_iff.mp hf).1
  refine ⟨fun j n e => ?_, fun σ env H Fs r env' S he Q hQ => ?_⟩
  · by_cases hj : j = i
    · subst hj
      rw [List.getElem?_set_self li] at e
      cases e
      exact ⟨fun z => by omega, fun z => by omega⟩
    · rw [List.getElem?_set_ne (Ne.symm hj)] at e
      exact ⟨fun _ => e, fun z => ⟨n, e, by omega⟩⟩
  unfold eTake at he
  split at he
  · rename_i d e
    cases he
    obtain ⟨v, F, h1, h2, h3⟩ := S.rep i d e
    have le : i < env.length := (List.getElem?_eq_some_iff.mp e).1
    have lf : i < Fs.length := (List.getElem?_eq_some_iff.mp h2).1
    have o := S.own i 2 F hf h2
    have S' : SI P (fl.set i 0) σ (env.set i none) H (Fs.set i []) := by
      refine ⟨by simp [S.l1], by simp [S.l2], by simp [S.l3], fun j d' e => ?_, fun j e => ?_, fun j n G e eG => ?_, S.frm, S.mm, fun j e => ?_⟩
      · by_cases hj : j = i
        · subst hj; rw [List.getElem?_set_self le] at e; cases e
        · rw [List.getElem?_set_ne (Ne.symm hj)] at e ⊢
          exact S.rep j d' e
      · by_cases hj : j = i
        · subst hj; exact List.getElem?_set_self lf
        · rw [List.getElem?_set_ne (Ne.symm hj)] at e ⊢
          exact S.nul j e
      · by_cases hj : j = i
        · subst hj
          rw [List.getElem?_set_self li] at e
          rw [List.getElem?_set_self lf] at eG
          cases e; cases eG
          exact own0 fun b hb => nomatch hb
        · rw [List.getElem?_set_ne (Ne.symm hj)] at e eG
          have o := S.own j n G e eG
          refine ⟨o.nd, o.rt, fun b hb => ?_, o.bas⟩
          obtain ⟨o1, o2, o3⟩ := o.pt b hb
          refine ⟨o1, o2, fun l L hl el => ?_⟩
          by_cases hli : l = i
          · subst hli
            rw [List.getElem?_set_self lf] at el
            cases el
            exact List.not_mem_nil
          · rw [List.getElem?_set_ne (Ne.symm hli)] at el
            exact o3 l L hl el
      · by_cases hj : j = i
        · subst hj
          rw [List.getElem?_set_self li] at e; cases e
        · rw [List.getElem?_set_ne (Ne.symm hj)] at e
          exact S.vi j e
    have fr : Free fl lv i := ⟨2, hf, Nat.le_refl _, hv⟩
    refine ⟨v, h1, hQ v F H (Fs.set i []) S' ⟨fun b o e _ => e, fun j hj => List.getElem?_set_ne (fun z => hj (by rw [← z]; exact fr)), fun j G eG b hb => ?_, fun b o e => ⟨o, e⟩⟩ h3 ⟨fun b hb => .inr ?_, fun _ => ⟨o.nd (Nat.le_refl _), fun b hb => (o.pt b (by rw [reg2 (Nat.le_refl _)]; exact hb)).2.1⟩, (fun j e => by cases e), (fun j e => by cases e)⟩ fun b hb => .inr ⟨i, F, h2, hb, fun _ => fr⟩⟩
    · by_cases hj : j = i
      · subst hj
        rw [List.getElem?_set_self lf] at eG
        cases eG; cases hb
      · rw [List.getElem?_set_ne (Ne.symm hj)] at eG
        exact .inl ⟨j, G, eG, hb, .inl rfl⟩
    · obtain ⟨o1, _, o3⟩ := o.pt b (by rw [reg2 (Nat.le_refl _)]; exact hb)
      refine ⟨?_, fun j G eG => ?_⟩
      · rcases o1 with z | ⟨z, _⟩
        · exact z
        · omega
      · by_cases hj : j = i
        · subst hj
          rw [List.getElem?_set_self lf] at eG
          cases eG
          exact List.not_mem_nil
        · rw [List.getElem?_set_ne (Ne.symm hj)] at eG
          exact o3 j G hj eG
  · cases he
end
end VL
/-! V7: loops. -/
namespace VL
open PySem PySem.Spec L2
variable {K : PySem.W.Frag}
/-- what a loop walks: ds the items, F the footprint of what is walked, Fc that of its items -/
structure ItOK (K : PySem.W.Frag) (J : It) (ds : List D) (F Fc : List Addr) (H : Hp) : Prop where
  len : ds.length ≤ sizeLine
  sub : ∀ b ∈ Fc, b ∈ F
  tr : ∀ b ∈ F, ∃ o, H b = some o
  go : ∀ (H2 : Hp), (∀ b ∈ F, ∀ o, H b = some o → H2 b = some o) → ∀ (i : Nat) (d : D), ds[i]? = some d → J.go i H2 ∧ ∀ (x : V) (H3 : Hp), J.yld i H2 x H3 → (∀ b o, H2 b = some o → H3 b = some o) ∧ ∃ G, Rp K H3 x d G ∧ ∀ b ∈ G, H2 b = none ∨ b ∈ Fc
  stop : ∀ (H2 : Hp), (∀ b ∈ F, ∀ o, H b = some o → H2 b = some o) → J.stop ds.length H2
abbrev Iv := Env → Res (List D)
def RI (P : Cz) (lv fl : List Nat) (wi : TI) (iv : Iv) (al alc : AL) (fl' : List Nat) : Prop :=
  SubF fl' fl ∧ ∀ (σ : L2.St) (env : Env) (H : Hp) (Fs : List (List Addr)) (r : Rs (List D)) (env' : Env), SI P fl σ env H Fs → iv env = some (r, env') → ∀ R : It → Hp → Prop,
    WE P r (fun ds => ∀ (J : It) (F Fc : List Addr) (H' : Hp) (Fs' : List (List Addr)), SI P fl' σ env' H' Fs' → Step lv fl H Fs H' Fs' → ItOK P.K J ds F Fc H' → TOK P.H0 al H' Fs' F → TOK P.H0 alc H' Fs' Fc → Org lv fl H Fs al F → R J H') → wi σ H R
section
variable {P : Cz} {Z : Fz} {fl fl1 fl2 lv L : List Nat} {σ : L2.St} {env env' : Env} {H H' H1 H2 : Hp} {Fs Fs1 Fs2 Fs' : List (List Addr)}
theorem RI.bind {β : Type} {f : List D → Env → Res β} {r : Rs β} {wi : TI} {iv : Iv} {al alc : AL} (ha : RI P lv fl wi iv al alc fl1) (S : SI P fl σ env H Fs) (he : bindM (iv env) f = some (r, env')) (hx : ∀ x, r = .ex x → ExOk P x) (R : It → Hp → Prop)
    (hok : ∀ ds e1, f ds e1 = some (r, env') → ∀ (J : It) (F Fc : List Addr) (H' : Hp) (Fs' : List (List Addr)), SI P fl1 σ e1 H' Fs' → Step lv fl H Fs H' Fs' → ItOK P.K J ds F Fc H' → TOK P.H0 al H' Fs' F → TOK P.H0 alc H' Fs' Fc → Org lv fl H Fs al F → R J H') : wi σ H R := by
  cases q : iv env with
  | none => rw [q] at he; cases he
  | some p =>
    obtain ⟨r1, e1⟩ := p
    rw [q] at he
    cases r1 with
    | ex x =>
      cases he
      exact ha.2 σ env H Fs _ _ S q _ (hx x rfl)
    | ok d => exact ha.2 σ env H Fs _ _ S q _ (hok d e1 he)
theorem wipe_at : ∀ {vs : List Nat} {σ : L2.St} {j : Nat}, (wipe σ vs)[j]? = if j ∈ vs then (σ[j]?).map (fun _ => none) else σ[j]?
  | [], σ, j => by simp [wipe]
  | v :: vs, σ, j => by
    unfold wipe
    rw [List.getElem?_set]
    by_cases h : v = j
    · subst h
      rw [wipe_length]
      by_cases hl : v < σ.length
      · simp [hl]
      · simp [hl]
    · have h' : j ≠ v := fun z => h z.symm
      simp only [h, if_false, List.mem_cons, h', false_or]
      exact wipe_at
theorem wipe_set {vs : List Nat} {σ : L2.St} {i : Nat} {x : Option V} (h : i ∈ vs) : wipe (σ.set i x) vs = wipe σ vs := by
  refine List.ext_getElem? fun j => ?_
  rw [wipe_at, wipe_at]
  by_cases hj : j ∈ vs
  · rw [if_pos hj, if_pos hj, List.getElem?_set]
    by_cases e : i = j
    · subst e
      by_cases hl : i < σ.length
      · simp [hl]
      · simp [hl]
    · simp [e]
  · rw [if_neg hj, if_neg hj, List.getElem?_set_ne]
    exact fun z => hj (z ▸ h)
theorem wipe_setAll : ∀ {is vs : List Nat} {σ : L2.St} {xs : List (Option V)}, (∀ i ∈ is, i ∈ vs) → wipe (setAll σ is xs) vs = wipe σ vs
  | [], vs, σ, xs, _ => by cases xs <;> rfl
  | i :: is, vs, σ, [], _ => rfl
  | i :: is, vs, σ, x :: xs, h => by
    show wipe (setAll (σ.set i x) is xs) vs = _
    rw [wipe_setAll fun j hj => h j (List.mem_cons_of_mem _ hj), wipe_set (h i List.mem_cons_self)]
/-! ### targets of a loop -/
inductive Tg where
  | nm (i : Nat) | tp (is : List Nat)
def Tg.slots : Tg → List Nat
  | .nm i => [i]
  | .tp is => is
def Tg.g (K : PySem.W.Frag) : Tg → TG
  | .nm i => gName i
  | .tp is => gTup K is.length (gNames is)
def Tg.d (t : Tg) (d : D) (e : Env) : Option Env := match t with
  | .nm i => some (e.set i (some d))
  | .tp is => match d with
    | .tup ds => if ds.length = is.length then some (setAll e is (ds.map some)) else none
    | _ => none
theorem Tg.ok {t : Tg} {v : V} {d : D} {G : List Addr} {Q : L2.St → Hp → Prop} (S : SI P fl σ env H Fs) (rp : Rp P.K H v d G) (sep : Sep fl Fs G) (bas : ∀ b ∈ G, P.H0 b = none ∨ b ∈ P.B) (nd : t.slots.Nodup) (hi : ∀ i ∈ t.slots, ∃ m, fl[i]? = some m ∧ m ≠ 3) (hz : setN 0 fl t.slots = fl)
    (hd : t.d d env = some env') (q : ∀ σ' Fs', SI P fl σ' env' H Fs' → PutsOk 0 t.slots G Fs Fs' → (∀ vs : List Nat, (∀ i ∈ t.slots, i ∈ vs) → wipe σ' vs = wipe σ vs) → Q σ' H) : t.g P.K v σ H Q := by
  cases t with
  | nm i =>
    cases hd
    obtain ⟨Fs2, S2, p⟩ := SI.puts (n := 0) (.inl rfl) (is := [i]) (vs := [v]) (ds := [d]) (F := G) S (by
      have := RpL.cons rp .nil
      rwa [List.append_nil] at this) rfl nd hi sep bas (fun z => by omega)
    have S2' : SI P fl (σ.set i (some v)) (env.set i (some d)) H Fs2 := by
      have e : setN 0 fl [i] = fl := hz
      rw [e] at S2
      exact S2
    exact q _ Fs2 S2' p fun vs h => wipe_set (h i List.mem_cons_self)
  | tp is =>
    unfold Tg.d at hd
    simp only at hd
    split at hd
    · split at hd
      · rename_i ds hl
        cases hd
        cases rp with
        | @tup a xs _ G' rd z rl =>
          have el := rl.length
          refine ⟨a, xs, rfl, SqT.of rd, by omega, gNames_ok (by omega) ?_⟩
          obtain ⟨Fs2, S2, p⟩ := SI.puts (n := 0) (.inl rfl) (is := is) (vs := xs) (ds := ds) (F := G') S rl hl.symm nd hi (fun j k L e1 e2 b hb hG => sep j k L e1 e2 b hb (List.mem_cons_of_mem _ hG)) (fun b hb => bas b (List.mem_cons_of_mem _ hb)) (fun z => by omega)
          have e : setN 0 fl is = fl := hz
          rw [e] at S2
          exact q _ Fs2 S2 ⟨p.out, fun i hi L eL b hb => List.mem_cons_of_mem _ (p.at_ i hi L eL b hb)⟩ fun vs h => wipe_setAll h
      · cases hd
    · cases hd
def loopK (k : Env → Res Out) (o : Out) (e : Env) : Res Out := match o with
  | .nx => k e
  | .ct => k e
  | .bk => some (.ok .nx, e)
  | .rt d => some (.ok (.rt d), e)
@[simp] theorem loopK_nx (k : Env → Res Out) (e : Env) : loopK k .nx e = k e := rfl
@[simp] theorem loopK_ct (k : Env → Res Out) (e : Env) : loopK k .ct e = k e := rfl
@[simp] theorem loopK_bk (k : Env → Res Out) (e : Env) : loopK k .bk e = some (.ok .nx, e) := rfl
@[simp] theorem loopK_rt (k : Env → Res Out) (d : D) (e : Env) : loopK k (.rt d) e = some (.ok (.rt d), e) := rfl
def forL (t : Tg) (b : Sv) : List D → Env → Res Out
  | [], e => some (.ok .nx, e)
  | d :: ds, e => match t.d d e with
    | none => none
    | some e1 => bindM (b e1) (loopK (forL t b ds))
def sFor (iv : Iv) (t : Tg) (b : Sv) : Sv := fun env => bindM (iv env) (forL t b)
/-- the flags through the loop -/
def forOk (lv fl flI : List Nat) (alc : AL) (is : List Nat) : Bool :=
  demOk alc fl && flLe flI (demote alc fl) && decide (setN 0 flI is = flI) && decide is.Nodup && is.all fun i => (match flI[i]? with | some n => n != 3 | none => false) && !lv.contains i
theorem rs_for {wi : TI} {iv : Iv} {al alc : AL} {t : Tg} {tb : TS} {b : Sv} {flI : List Nat} (hi : RI P lv fl wi iv al alc fl1) (hb : RS P Z (al.slots ++ lv) flI tb b flI flI) (hk : forOk (al.slots ++ lv) fl1 flI alc t.slots = true := by rfl) : RS P Z lv fl (tFor wi (t.g P.K) tb) (sFor iv t b) L flI := fun σ env H Fs r env' S he Dn hQ => by
  simp only [forOk, Bool.and_eq_true, decide_eq_true_eq, List.all_eq_true] at hk
  obtain ⟨⟨⟨⟨hd, hw⟩, hz⟩, nd⟩, hs⟩ := hk
  have hs' : ∀ i ∈ t.slots, (∃ m, flI[i]? = some m ∧ m ≠ 3) ∧ i ∉ al.slots ++ lv := fun i h => by
    obtain ⟨a, c⟩ := hs i h
    refine ⟨?_, by simpa using c⟩
    split at a
    · rename_i m e; exact ⟨m, e, by simpa using a⟩
    · cases a
  refine hi.bind S he hQ.ex _ fun ds e1 he J F Fc H1 Fs1 S1 st io tk tkc og => ?_
  have SI1 : SI P flI σ e1 H1 Fs1 := (S1.demote hd).weak hw
  have sepC0 : Sep flI Fs1 Fc := fun j n G a1 a2 b hb hF => by
    obtain ⟨m, em, h'⟩ := (flLe_at hw).2 j n a1
    exact TOK.sep S1 tkc j m G em a2 b (reg_mono (by rcases h' with rfl | ⟨rfl, _⟩ | ⟨rfl, _, _⟩ <;> omega) b hb) hF
  have sepF0 : ∀ (j n : Nat) (G : List Addr), j ∉ al.slots ++ lv → flI[j]? = some n → Fs1[j]? = some G → ∀ b ∈ reg n G, b ∉ F := fun j n G hj a1 a2 b hb hF => by
    obtain ⟨m, em, h'⟩ := (flLe_at hw).2 j n a1
    obtain ⟨m', em', hm'⟩ := demote_get em
    have hle : dm alc j m' ≤ m' := dm_le
    have hb' : b ∈ reg m' G := reg_mono (by rcases h' with h' | ⟨h', _⟩ | ⟨h', _, _⟩ <;> omega) b hb
    rcases tk.pt b hF with ⟨k, L', hk, ek, hL⟩ | ⟨_, h⟩
    · have : j ≠ k := fun z => hj (List.mem_append_left _ (z ▸ hk))
      exact ((S1.own j m' G em' a2).pt b hb').2.2 k L' (Ne.symm this) ek hL
    · exact h j G a2 (reg_sub b hb')
  have basC : ∀ b ∈ Fc, P.H0 b = none ∨ b ∈ P.B := fun b hb => by
    rcases tkc.pt b hb with ⟨j, G, hj, ej, hG⟩ | ⟨h, _⟩
    · have h := (List.getElem?_eq_some_iff.mp ej).1
      rw [S1.l3, ← S1.l2] at h
      refine (S1.own j _ G (List.getElem?_eq_getElem h) ej).bas (fun z => ?_) b hG
      have := List.all_eq_true.mp hd j hj
      rw [List.getElem?_eq_getElem h, z] at this
      simp at this
    · exact .inl h
  have ss0 : SStep lv fl H Fs flI H1 Fs1 := ((st.s S1 hi.1).trans (by
    refine ⟨fun _ _ e _ => e, fun j n' G a1 a2 b hb => ?_, fun b o e => ⟨o, e⟩⟩
    obtain ⟨m, em, rfl⟩ := demote_get a1
    exact .inr ⟨j, m, G, .inr rfl, em, a2, reg_mono dm_le b hb⟩ : SStep lv fl1 H1 Fs1 (demote alc fl1) H1 Fs1)).weak hw
  -- the loop
  let Inv : Nat → L2.St → Hp → Prop := fun i σ2 H2 => ∃ (e2 : Env) (Fs2 : List (List Addr)), SI P flI σ2 e2 H2 Fs2 ∧ forL t b (ds.drop i) e2 = some (r, env') ∧ (∀ b ∈ F, ∀ o, H1 b = some o → H2 b = some o) ∧ SStep (al.slots ++ lv) flI H1 Fs1 flI H2 Fs2
  refine ⟨fun i m σ2 H2 => m = ds.length - i ∧ i ≤ ds.length ∧ Inv i σ2 H2, ⟨ds.length, by simp, Nat.zero_le _, e1, Fs1, SI1, he, fun _ _ _ e => e, SStep.refl⟩, ?_⟩
  rintro i m σ2 H2 ⟨rfl, hil, e2, Fs2, S2, hf, kF, ss⟩
  have ssl : SStep lv fl H Fs flI H2 Fs2 := ss0.trans (ss.toLv fun _ z => List.mem_append_right _ z)
  by_cases hlt : i < ds.length
  · obtain ⟨hgo, hy⟩ := io.go H2 kF i ds[i] (List.getElem?_eq_getElem hlt)
    refine .inr ⟨hgo, fun σ' H' => Inv (i + 1) σ' H', fun σ' H' h => ⟨ds.length - (i + 1), by omega, rfl, hlt, h⟩, fun x H3 y => ?_⟩
    obtain ⟨k3, G, rp, hG⟩ := hy x H3 y
    rw [List.drop_eq_getElem_cons hlt] at hf
    unfold forL at hf
    split at hf
    · cases hf
    rename_i e3 hd3
    have S3 : SI P flI σ2 e2 H3 Fs2 := S2.grow k3
    have sepC2 : Sep flI Fs2 Fc := fun j n L' a1 a2 b hb hF => by
      rcases ss.regs j n L' a1 a2 b hb with z | ⟨k, m, G', _, a3, a4, hG'⟩
      · obtain ⟨o, e⟩ := io.tr b (io.sub b hF)
        rw [e] at z; cases z
      · exact sepC0 k m G' a3 a4 b hG' hF
    refine Tg.ok S3 rp (fun j n L' a1 a2 b hb hF => ?_) (fun b hb => ?_) nd (fun j hj => (hs' j hj).1) hz hd3 fun σ4 Fs4 S4 p4 _ => ?_
    · rcases hG b hF with z | z
      · obtain ⟨o, e⟩ := S2.fp a2 b (reg_sub b hb)
        rw [z] at e; cases e
      · exact sepC2 j n L' a1 a2 b hb z
    · rcases hG b hb with z | z
      · exact .inl (S2.new z)
      · exact basC b z
    · -- the body
      have ss4 : SStep (al.slots ++ lv) flI H1 Fs1 flI H3 Fs4 := ss.trans ⟨fun b o e _ => k3 b o e, fun j n L' a1 a2 b hb => by
        by_cases hj : j ∈ t.slots
        · have : n = 0 := by
            rw [← hz] at a1
            rcases setN_get a1 with ⟨h, _⟩ | ⟨_, h⟩
            · exact absurd hj h
            · exact h
          subst this
          cases hb
        · rw [p4.out j hj] at a2
          exact .inr ⟨j, n, L', .inr rfl, a1, a2, hb⟩, fun b o e => ⟨o, k3 b o e⟩⟩
      have kF4 : ∀ b ∈ F, ∀ o, H1 b = some o → H3 b = some o := fun b hb o e => k3 b o (kF b hb o e)
      have cont : ∀ {e5 : Env} {σ5 : L2.St} {H5 : Hp} {Fs5 : List (List Addr)}, SI P flI σ5 e5 H5 Fs5 → SStep (al.slots ++ lv) flI H3 Fs4 flI H5 Fs5 → forL t b (ds.drop (i + 1)) e5 = some (r, env') → Inv (i + 1) σ5 H5 := fun {e5 σ5 H5 Fs5} S5 ss5 h => by
        refine ⟨e5, Fs5, S5, h, fun b hb o e => ss5.keep b o (kF4 b hb o e) fun j n L' hj a1 a2 hm => ?_, ss4.trans ss5⟩
        rcases ss4.regs j n L' a1 a2 b hm with z | ⟨k, m, G', hk, a3, a4, hG'⟩
        · rw [e] at z; cases z
        · refine sepF0 k m G' ?_ a3 a4 b hG' hb
          rcases hk with ⟨_, h⟩ | rfl
          · exact h
          · exact hj
      cases q : b e3 with
      | none => rw [q] at hf; cases hf
      | some p =>
        obtain ⟨r5, e5⟩ := p
        rw [q] at hf
        refine hb σ4 e3 H3 Fs4 r5 e5 S4 q _ ?_
        cases r5 with
        | ex x =>
          cases hf
          exact hQ
        | ok o =>
          cases o with
          | nx => exact fun σ5 H5 Fs5 S5 ss5 => cont S5 ss5 hf
          | ct => exact fun σ5 H5 Fs5 S5 ss5 => cont S5 ss5 hf
          | bk =>
            cases hf
            exact fun σ5 H5 Fs5 S5 ss5 => hQ σ5 H5 Fs5 S5 (ss0.trans ((ss4.trans ss5).toLv fun _ z => List.mem_append_right _ z))
          | rt d =>
            cases hf
            exact hQ
  · have ei : i = ds.length := by omega
    subst ei
    refine .inl ⟨io.stop H2 kF, ?_⟩
    rw [List.drop_length] at hf
    cases hf
    exact hQ σ2 H2 Fs2 S2 ssl
/-! ### while -/
def whileN (c : Tv) (b : Sv) : Nat → Env → Res Out
  | 0, _ => none
  | n + 1, e => bindM (c e) fun t e1 => cIf t (bindM (b e1) (loopK (whileN c b n))) (some (.ok .nx, e1))
theorem whileN_mono {c : Tv} {b : Sv} : ∀ {n m : Nat} {e : Env} {r : Rs Out × Env}, whileN c b n e = some r → n ≤ m → whileN c b m e = some r
  | 0, _, _, _, h, _ => by cases h
  | n + 1, 0, _, _, _, hm => by omega
  | n + 1, m + 1, e, r, h, hm => by
    unfold whileN at h ⊢
    cases q : c e with
    | none => rw [q] at h; cases h
    | some p =>
      obtain ⟨r1, e1⟩ := p
      rw [q] at h
      cases r1 with
      | ex x => exact h
      | ok t =>
        cases t with
        | false => exact h
        | true =>
          simp only [bindM_ok, cIf_t] at h ⊢
          cases q2 : b e1 with
          | none => rw [q2] at h; cases h
          | some p2 =>
            obtain ⟨r2, e2⟩ := p2
            rw [q2] at h
            cases r2 with
            | ex x => exact h
            | ok o =>
              cases o with
              | nx => exact whileN_mono (n := n) h (by omega)
              | ct => exact whileN_mono (n := n) h (by omega)
              | bk => exact h
              | rt d => exact h
open Classical in
noncomputable def sWhile (c : Tv) (b : Sv) : Sv := fun e => if h : ∃ n r, whileN c b n e = some r then whileN c b h.choose e else none
theorem sWhile_of {c : Tv} {b : Sv} {n : Nat} {e : Env} {r : Rs Out × Env} (h : whileN c b n e = some r) : sWhile c b e = some r := by
  have q : ∃ n r, whileN c b n e = some r := ⟨n, r, h⟩
  unfold sWhile
  rw [dif_pos q]
  obtain ⟨r', hr⟩ := q.choose_spec
  rcases Nat.le_total n q.choose with z | z
  · exact whileN_mono h z
  · rw [← whileN_mono hr z, h] at *
    exact hr.trans (by rw [← h, ← whileN_mono hr z])
theorem sWhile_inv {c : Tv} {b : Sv} {e : Env} {r : Rs Out × Env} (h : sWhile c b e = some r) : ∃ n, whileN c b n e = some r := by
  unfold sWhile at h
  split at h
  · exact ⟨_, h⟩
  · cases h
theorem rs_while {tc : TT} {c : Tv} {tb : TS} {b : Sv} {flI : List Nat} (hc : RT P lv flI tc c fl1) (hb : RS P Z lv fl1 tb b flI flI) (hk : (flLe flI fl && flLe flI fl1) = true := by rfl) : RS P Z lv fl (tWhile tc tb) (sWhile c b) L flI := fun σ env H Fs r env' S he Dn hQ => by
  simp only [Bool.and_eq_true] at hk
  obtain ⟨n0, he⟩ := sWhile_inv he
  have ss0 : SStep lv fl H Fs flI H Fs := (SStep.refl (fl := fl)).weak hk.1
  let Inv : Nat → L2.St → Hp → Prop := fun n σ2 H2 => ∃ (e2 : Env) (Fs2 : List (List Addr)), SI P flI σ2 e2 H2 Fs2 ∧ whileN c b n e2 = some (r, env') ∧ SStep lv fl H Fs flI H2 Fs2
  refine ⟨Inv, ⟨n0, env, Fs, S.weak hk.1, he, ss0⟩, ?_⟩
  rintro n σ2 H2 ⟨e2, Fs2, S2, hw, ss⟩
  cases n with
  | zero => cases hw
  | succ n =>
    unfold whileN at hw
    refine hc.bind S2 hw hQ.ex _ fun t e3 hw H3 Fs3 S3 st3 => ?_
    have ss3 : SStep lv fl H Fs fl1 H3 Fs3 := ss.trans (st3.s S3 hc.1)
    cases t with
    | false =>
      rw [if_neg (by decide)]
      cases hw
      exact hQ σ2 H3 Fs3 (S3.weak hk.2) (ss3.weak hk.2)
    | true =>
      rw [if_pos rfl]
      refine ⟨fun σ' H' => Inv n σ' H', fun σ' H' h => ⟨n, Nat.lt_succ_self _, h⟩, ?_⟩
      simp only [cIf_t] at hw
      cases q : b e3 with
      | none => rw [q] at hw; cases hw
      | some p =>
        obtain ⟨r5, e5⟩ := p
        rw [q] at hw
        refine hb σ2 e3 H3 Fs3 r5 e5 S3 q _ ?_
        cases r5 with
        | ex x =>
          cases hw
          exact hQ
        | ok o =>
          cases o with
          | nx => exact fun σ5 H5 Fs5 S5 ss5 => ⟨e5, Fs5, S5, hw, ss3.trans ss5⟩
          | ct => exact fun σ5 H5 Fs5 S5 ss5 => ⟨e5, Fs5, S5, hw, ss3.trans ss5⟩
          | bk =>
            cases hw
            exact fun σ5 H5 Fs5 S5 ss5 => hQ σ5 H5 Fs5 S5 (ss3.trans ss5)
          | rt d =>
            cases hw
            exact hQ
end
end VL
/-! V8: list comprehensions. -/
namespace VL
open PySem PySem.Spec L2
variable {K : PySem.W.Frag}
def hid (D : Addr) (H : Hp) : Hp := fun b => if b = D then none else H b
theorem hid_ne {D b : Addr} {H : Hp} (h : b ≠ D) : hid D H b = H b := by unfold hid; rw [if_neg h]
theorem hid_same {D : Addr} {H : Hp} : hid D H D = none := by unfold hid; rw [if_pos rfl]
theorem hid_some {D b : Addr} {H : Hp} {o : HO} (h : hid D H b = some o) : b ≠ D ∧ H b = some o := by
  unfold hid at h
  split at h
  · cases h
  · exact ⟨by assumption, h⟩
theorem hid_keep {D : Addr} {H : Hp} : ∀ b o, hid D H b = some o → H b = some o := fun b o e => (hid_some e).2
theorem upd_hid {D : Addr} {H : Hp} {o : HO} (h : H D = some o) : upd (hid D H) D o = H := by
  funext b
  by_cases e : b = D
  · rw [e, upd_same, h]
  · rw [upd_ne e, hid_ne e]
theorem hid_upd {D : Addr} {H : Hp} {o : HO} : hid D (upd H D o) = hid D H := by
  funext b
  by_cases e : b = D
  · rw [e, hid_same, hid_same]
  · rw [hid_ne e, hid_ne e, upd_ne e]
theorem hid_none {D : Addr} {H : Hp} (h : H D = none) : hid D H = H := by
  funext b
  by_cases e : b = D
  · rw [e, hid_same, h]
  · rw [hid_ne e]
def clr : List Nat → Env → Env
  | [], e => e
  | i :: is, e => clr is (e.set i none)
def clrF : List Nat → List (List Addr) → List (List Addr)
  | [], e => e
  | i :: is, e => clrF is (e.set i [])
theorem clr_at : ∀ {vs : List Nat} {e : Env} {j : Nat}, (clr vs e)[j]? = if j ∈ vs then (e[j]?).map (fun _ => none) else e[j]?
  | [], e, j => by simp [clr]
  | v :: vs, e, j => by
    unfold clr
    rw [clr_at, List.getElem?_set]
    by_cases h : v = j
    · subst h
      by_cases hl : v < e.length
      · by_cases hm : v ∈ vs <;> simp [hl, hm]
      · by_cases hm : v ∈ vs <;> simp [hl, hm]
    · have h' : j ≠ v := fun z => h z.symm
      simp [h, h']
theorem clrF_at : ∀ {vs : List Nat} {e : List (List Addr)} {j : Nat}, (clrF vs e)[j]? = if j ∈ vs then (e[j]?).map (fun _ => []) else e[j]?
  | [], e, j => by simp [clrF]
  | v :: vs, e, j => by
    unfold clrF
    rw [clrF_at, List.getElem?_set]
    by_cases h : v = j
    · subst h
      by_cases hl : v < e.length
      · by_cases hm : v ∈ vs <;> simp [hl, hm]
      · by_cases hm : v ∈ vs <;> simp [hl, hm]
    · have h' : j ≠ v := fun z => h z.symm
      simp [h, h']
theorem clr_length : ∀ {vs : List Nat} {e : Env}, (clr vs e).length = e.length
  | [], _ => rfl
  | _ :: vs, e => by unfold clr; rw [clr_length, List.length_set]
theorem clrF_length : ∀ {vs : List Nat} {e : List (List Addr)}, (clrF vs e).length = e.length
  | [], _ => rfl
  | _ :: vs, e => by unfold clrF; rw [clrF_length, List.length_set]
section
variable {P : Cz} {Z : Fz} {fl fl1 fl2 lv L : List Nat} {σ : L2.St} {env env' : Env} {H H' H1 H2 : Hp} {Fs Fs1 Fs2 Fs' : List (List Addr)}
theorem SI.hide {D : Addr} (S : SI P fl σ env H Fs) (h : ∀ (j : Nat) (G : List Addr), Fs[j]? = some G → D ∉ G) (h0 : P.H0 D = none) (hM : D ∉ P.M) : SI P fl σ env (hid D H) Fs := by
  have ne : ∀ (j : Nat) (G : List Addr), Fs[j]? = some G → ∀ b ∈ G, b ≠ D := fun j G e b hb z => h j G e (z ▸ hb)
  refine ⟨S.l1, S.l2, S.l3, fun i d e => ?_, S.nul, fun i n F a b => ?_, fun b o e hb => ?_, fun b hb => ?_, S.vi⟩
  · obtain ⟨v, F, h1, h2, r⟩ := S.rep i d e
    exact ⟨v, F, h1, h2, r.keep fun b hb o e => by rw [hid_ne (ne i F h2 b hb)]; exact e⟩
  · have q := S.own i n F a b
    exact ⟨q.nd, q.rt, fun c hc => ⟨(q.pt c hc).1, (q.pt c hc).2.1.keep fun o e => by rw [hid_ne (ne i F b c (reg_sub c hc))]; exact e, (q.pt c hc).2.2⟩, q.bas⟩
  · have : b ≠ D := fun z => by rw [z, h0] at e; cases e
    rw [hid_ne this]
    exact S.frm b o e hb
  · have : b ≠ D := fun z => hM (z ▸ hb)
    rw [hid_ne this]
    exact S.mm b hb
theorem SI.sigma {σ' : L2.St} (S : SI P fl σ env H Fs) (hl : σ'.length = σ.length) (h : ∀ (i : Nat) (d : D), env[i]? = some (some d) → σ'[i]? = σ[i]?) (h3 : ∀ (i : Nat), fl[i]? = some 3 → σ'[i]? = σ[i]?) : SI P fl σ' env H Fs :=
  ⟨by rw [hl]; exact S.l1, S.l2, S.l3, fun i d e => by
    obtain ⟨v, F, h1, r⟩ := S.rep i d e
    exact ⟨v, F, by rw [h i d e]; exact h1, r⟩, S.nul, S.own, S.frm, S.mm, fun i e => by rw [h3 i e]; exact S.vi i e⟩
theorem SI.clear {vs : List Nat} (S : SI P fl σ env H Fs) (h0 : ∀ i ∈ vs, fl[i]? ≠ some 3) : SI P fl σ (clr vs env) H (clrF vs Fs) := by
  refine ⟨by rw [clr_length]; exact S.l1, by rw [clr_length]; exact S.l2, by rw [clrF_length, clr_length]; exact S.l3, fun i d e => ?_, fun i e => ?_, fun i n F a b => ?_, S.frm, S.mm, S.vi⟩
  · rw [clr_at] at e
    split at e
    · cases h : env[i]? <;> rw [h] at e <;> cases e
    · rename_i hi
      obtain ⟨v, F, h1, h2, r⟩ := S.rep i d e
      exact ⟨v, F, h1, by rw [clrF_at, if_neg hi]; exact h2, r⟩
  · rw [clr_at] at e
    rw [clrF_at]
    split at e
    · rename_i hi
      rw [if_pos hi]
      have : i < Fs.length := by
        rw [S.l3]
        cases h : env[i]? with
        | none => rw [h] at e; cases e
        | some x => exact (List.getElem?_eq_some_iff.mp h).1
      rw [List.getElem?_eq_getElem this]
      rfl
    · rename_i hi
      rw [if_neg hi]
      exact S.nul i e
  · rw [clrF_at] at b
    split at b
    · have : F = [] := by
        cases h : Fs[i]? with
        | none => rw [h] at b; cases b
        | some x => rw [h] at b; cases b; rfl
      subst this
      exact ⟨fun _ => List.nodup_nil, fun _ a G e => by (cases e), fun b hb => (nomatch (reg_sub b hb)), fun _ b hb => nomatch hb⟩
    · rename_i hi
      have o := S.own i n F a b
      refine ⟨o.nd, o.rt, fun c hc => ?_, o.bas⟩
      obtain ⟨o1, o2, o3⟩ := o.pt c hc
      refine ⟨o1, o2, fun j G hj e => ?_⟩
      rw [clrF_at] at e
      split at e
      · have : G = [] := by
          cases h : Fs[j]? with
          | none => rw [h] at e; cases e
          | some x => rw [h] at e; cases e; rfl
        rw [this]
        exact List.not_mem_nil
      · exact o3 j G hj e
/-- the tests of a comprehension -/
def tvYes : Tv := fun e => some (.ok true, e)
theorem rt_yes : RT P lv fl tYes tvYes fl := by
  refine ⟨SubF.refl, fun σ env H Fs r env' S he Q hQ => ?_⟩
  cases he
  exact hQ H Fs S Step.refl
/-- acc: what is made so far -/
def lcA (t : Tg) (tv : Tv) (ev : Ev) (vs : List Nat) : List D → List D → Env → Res D
  | [], acc, e => some (.ok (.lst acc), e)
  | d :: ds, acc, e => match t.d d e with
    | none => none
    | some e1 => bindM (tv e1) fun c e2 => cIf c (bindM (ev e2) fun y e3 => lcA t tv ev vs ds (acc ++ [y]) (clr vs e3)) (lcA t tv ev vs ds acc (clr vs e2))
def vsNone (vs : List Nat) (e : Env) : Bool := vs.all fun i => match e[i]? with
  | some none => true
  | _ => false
def eLc (iv : Iv) (t : Tg) (tv : Tv) (ev : Ev) (vs : List Nat) : Ev := fun env => bindM (iv env) fun ds e => if vsNone vs e then lcA t tv ev vs ds [] e else none
theorem wipe_wipe {vs : List Nat} {σ : L2.St} : wipe (wipe σ vs) vs = wipe σ vs := by
  refine List.ext_getElem? fun j => ?_
  rw [wipe_at]
  split
  · rename_i h
    rw [wipe_at, if_pos h]
    cases σ[j]? <;> rfl
  · rfl
/-- ownership that only slept -/
theorem SI.restore {flB lvb : List Nat} {σ' : L2.St} (S : SI P fl σ env H Fs) (S' : SI P flB σ' env' H' Fs') (hB : flLe flB fl = true) (s : Step lvb flB H Fs H' Fs') (h : ∀ (i n : Nat), fl[i]? = some n → flB[i]? = some n ∨ i ∈ lvb) : SI P fl σ' env' H' Fs' := by
  refine ⟨S'.l1, ?_, S'.l3, S'.rep, S'.nul, fun i n F a b => ?_, S'.frm, S'.mm, fun i e => ?_⟩
  · rw [← S'.l2]; exact (flLe_at hB).1.symm
  · rcases h i n a with e | hl
    · exact S'.own i n F e b
    · have nf : ¬ Free flB lvb i := fun ⟨_, _, _, q⟩ => q hl
      have b1 : Fs[i]? = some F := by rw [← s.same i nf]; exact b
      have o := S.own i n F a b1
      refine ⟨o.nd, o.rt, fun c hc => ?_, o.bas⟩
      obtain ⟨o1, o2, o3⟩ := o.pt c hc
      have out : ∀ k G, Free flB lvb k → Fs[k]? = some G → c ∉ G := fun k G f e => o3 k G (fun z => nf (z ▸ f)) e
      refine ⟨o1, o2.keep fun x e => s.keep c x e out, fun j G hj e hG => ?_⟩
      rcases s.new j G e c hG with ⟨k, L', ek, hL, hk⟩ | z
      · rcases hk with rfl | hk
        · exact o3 k L' hj ek hL
        · exact out k L' hk ek hL
      · obtain ⟨x, e⟩ := o2.there
        rw [z] at e; cases e
  · obtain ⟨m, em, _⟩ := (flLe_at (fl' := flB) (fl := fl) hB).2 i (flB[i]?.getD 0) (by
      have h1 := (List.getElem?_eq_some_iff.mp e).1
      have h2 : i < flB.length := by rw [(flLe_at hB).1]; exact h1
      rw [List.getElem?_eq_getElem h2]; rfl)
    have h1 := (List.getElem?_eq_some_iff.mp e).1
    have h2 : i < flB.length := by rw [(flLe_at hB).1]; exact h1
    obtain ⟨m', em', rel⟩ := (flLe_at hB).2 i flB[i] (List.getElem?_eq_getElem h2)
    rw [e] at em'
    cases em'
    refine S'.vi i ?_
    rw [List.getElem?_eq_getElem h2]
    congr 1
    omega
theorem demote_flLe {al : AL} (hd : demOk al fl = true) (h : ∀ n ∈ fl, n ≤ 3) : flLe (demote al fl) fl = true := by
  have go : ∀ (r : List Nat) (k : Nat), (∀ (i n : Nat), r[i]? = some n → dm al (k + i) n = n ∨ (dm al (k + i) n = 0 ∧ n ≠ 3) ∨ (dm al (k + i) n = 1 ∧ n = 2)) → flLe (dmF al k r) r = true := by
    intro r
    induction r with
    | nil => intro k _; rfl
    | cons n r ih =>
      intro k hr
      simp only [dmF, flLe, Bool.and_eq_true]
      refine ⟨?_, ih (k + 1) fun i m e => ?_⟩
      · have q := hr 0 n rfl
        rw [Nat.add_zero] at q
        rcases q with q | ⟨q, q2⟩ | ⟨q, q2⟩
        · rw [q]; simp
        · rw [q]; simp [q2]
        · rw [q]; simp [q2]
      · have q := hr (i + 1) m (by simpa using e)
        rw [show k + 1 + i = k + (i + 1) by omega]
        exact q
  refine go fl 0 fun i n e => ?_
  rw [Nat.zero_add]
  rcases dm_rel hd e with q | q | ⟨q, q2, q3⟩
  · exact .inl q
  · exact .inr (.inl q)
  · have := h n (List.mem_of_getElem? e)
    exact .inr (.inr ⟨q, by omega⟩)
/-- what the list's items are of -/
def alR (ale alc : AL) (vs : List Nat) : AL := match ale with
  | .own => .own
  | a => .mix (alc.slots ++ a.slots.filter fun i => !vs.contains i)
theorem alR_own {ale alc : AL} {vs : List Nat} (h : alR ale alc vs = .own) : ale = .own := by cases ale <;> first | rfl | cases h
theorem alR_c {ale alc : AL} {vs : List Nat} (h : ale ≠ .own) : ∀ i ∈ alc.slots, i ∈ (alR ale alc vs).slots := fun i hi => by
  cases ale <;> first | exact absurd rfl h | exact List.mem_append_left _ hi
theorem alR_e {ale alc : AL} {vs : List Nat} (h : ale ≠ .own) : ∀ i ∈ ale.slots, i ∉ vs → i ∈ (alR ale alc vs).slots := fun i hi hv => by
  cases ale <;> first | exact absurd rfl h | exact List.mem_append_right _ (List.mem_filter.mpr ⟨hi, by simpa using hv⟩)
theorem alR_var {ale alc : AL} {vs : List Nat} (i : Nat) : alR ale alc vs ≠ .var i := by cases ale <;> intro h <;> cases h
theorem alR_sub {ale alc : AL} {vs : List Nat} (i : Nat) : alR ale alc vs ≠ .sub i := by cases ale <;> intro h <;> cases h
def lcOk (lvb lv fl : List Nat) (al alc ale : AL) (vs is : List Nat) : Bool :=
  (al.slots ++ (alc.slots ++ lv)).all (fun i => lvb.contains i) && (alR ale alc vs).slots.all (fun i => lvb.contains i && !vs.contains i) && decide is.Nodup && decide (setN 0 (demote alc fl) is = demote alc fl) && is.all (fun i => vs.contains i) && vs.all (fun i => fl[i]? == some 0)
  && (al.slots ++ alc.slots).all (fun i => !vs.contains i) && demOk alc fl && fl.all (fun n => decide (n ≤ 3))
theorem re_lc {wi : TI} {iv : Iv} {al alc ale : AL} {t : Tg} {tt : TT} {tv : Tv} {te : TE} {ev : Ev} {vs lvb : List Nat} (hi : RI P lv fl wi iv al alc fl1) (ht : RT P lvb (demote alc fl1) tt tv (demote alc fl1)) (he : RE P lvb (demote alc fl1) te ev ale (demote alc fl1))
    (hk : lcOk lvb lv fl1 al alc ale vs t.slots = true := by rfl) : RE P lv fl (tLc wi (t.g P.K) tt te vs) (eLc iv t tv ev vs) (alR ale alc vs) fl1 := by
  simp only [lcOk, Bool.and_eq_true, decide_eq_true_eq, List.all_eq_true] at hk
  obtain ⟨⟨⟨⟨⟨⟨⟨⟨k1, k2⟩, knd⟩, k4⟩, k5⟩, k6⟩, k7⟩, k8⟩, k9⟩ := hk
  have k1 : ∀ i ∈ al.slots ++ (alc.slots ++ lv), i ∈ lvb := fun i h => by simpa using k1 i h
  have k2a : ∀ i ∈ (alR ale alc vs).slots, i ∈ lvb := fun i h => by simpa using (k2 i h).1
  have k2b : ∀ i ∈ (alR ale alc vs).slots, i ∉ vs := fun i h => by simpa using (k2 i h).2
  have k5 : ∀ i ∈ t.slots, i ∈ vs := fun i h => by simpa using k5 i h
  have k6 : ∀ i ∈ vs, fl1[i]? = some 0 := fun i h => by simpa using k6 i h
  have k7 : ∀ i ∈ al.slots ++ alc.slots, i ∉ vs := fun i h => by simpa using k7 i h
  refine ⟨hi.1, fun σ env H Fs r env' S hev Q hQ => ?_⟩
  refine hi.bind S hev hQ.ex _ fun ds e1 hev J F Fc H1 Fs1 S1 st io tk tkc og => ?_
  split at hev
  rotate_left
  · cases hev
  rename_i hvn
  have hvn : ∀ i ∈ vs, e1[i]? = some none := fun i h => by
    have := List.all_eq_true.mp hvn i h
    split at this
    · assumption
    · cases this
  intro L0 hD
  have S1B : SI P (demote alc fl1) σ e1 H1 Fs1 := S1.demote k8
  have hB : flLe (demote alc fl1) fl1 = true := demote_flLe k8 fun n h => k9 n h
  generalize hflB : demote alc fl1 = flB at ht he k4 S1B hB
  have k6B : ∀ i ∈ vs, flB[i]? = some 0 := fun i h => by
    rw [← hflB]
    unfold demote
    rw [dmF_get, k6 i h]
    have := dm_le (al := alc) (i := 0 + i) (n := 0)
    simp only [Option.map_some, Option.some.injEq]
    omega
  have nfv : ∀ i ∈ vs, ¬ Free flB lvb i := fun i h ⟨n, e, hn, _⟩ => by
    rw [k6B i h] at e
    cases e
    omega
  have h0D : P.H0 L0 = none := S1.new hD
  have hMD : L0 ∉ P.M := fun z => by
    obtain ⟨o, e⟩ := S1.mm L0 z
    rw [hD] at e; cases e
  have hDF : L0 ∉ F := fun z => by
    obtain ⟨o, e⟩ := io.tr L0 z
    rw [hD] at e; cases e
  have sepC0 : Sep flB Fs1 Fc := by rw [← hflB]; exact TOK.sep S1 tkc
  have basC : ∀ b ∈ Fc, P.H0 b = none ∨ b ∈ P.B := fun b hb => by
    rcases tkc.pt b hb with ⟨j, G, hj, ej, hG⟩ | ⟨h, _⟩
    · have h := (List.getElem?_eq_some_iff.mp ej).1
      rw [S1.l3, ← S1.l2] at h
      refine (S1.own j _ G (List.getElem?_eq_getElem h) ej).bas (fun z => ?_) b hG
      have := List.all_eq_true.mp k8 j hj
      rw [List.getElem?_eq_getElem h, z] at this
      simp at this
    · exact .inl h
  have trC : ∀ b ∈ Fc, ∃ o, H1 b = some o := fun b hb => io.tr b (io.sub b hb)
  let Inv : Nat → Hp → Prop := fun i H2 => ∃ (e2 : Env) (Fs2 : List (List Addr)) (acc : List V) (ys : List D) (A : List Addr),
    SI P flB (wipe σ vs) e2 (hid L0 H2) Fs2 ∧ (∀ j ∈ vs, e2[j]? = some none) ∧ lcA t tv ev vs (ds.drop i) ys e2 = some (r, env') ∧ H2 L0 = some (.lst acc) ∧ acc.length ≤ i ∧ RpL P.K (hid L0 H2) acc ys A ∧ TOK P.H0 (alR ale alc vs) (hid L0 H2) Fs2 A ∧ Org lv fl H Fs (alR ale alc vs) A ∧
      Step lvb flB H1 Fs1 (hid L0 H2) Fs2
  have wσ : ∀ {σ4 : L2.St} {fl4 : List Nat} {e : Env} {Hh : Hp} {Fh : List (List Addr)}, SI P flB σ4 e Hh Fh → (∀ j ∈ vs, e[j]? = some none) → wipe σ4 vs = wipe σ vs → SI P flB (wipe σ vs) e Hh Fh := fun {σ4 _ e Hh Fh} S4 hn hw => by
    have at_ : ∀ i, i ∉ vs → (wipe σ vs)[i]? = σ4[i]? := fun i hi => by rw [← hw, wipe_at, if_neg hi]
    refine S4.sigma (by rw [← hw, wipe_length]) (fun i d e => at_ i fun z => ?_) fun i e => at_ i fun z => ?_
    · rw [hn i z] at e; cases e
    · rw [k6B i z] at e; cases e
  refine ⟨fun i m H2 => m = ds.length - i ∧ i ≤ ds.length ∧ Inv i H2, ⟨ds.length, by simp, Nat.zero_le _, e1, Fs1, [], [], [], ?_, hvn, hev, upd_same, Nat.le_refl _, .nil, TOK.nil alR_var alR_sub, Org.nil, ?_⟩, ?_⟩
  · rw [hid_upd, hid_none hD]
    exact wσ (fl4 := fl1) S1B hvn rfl
  · rw [hid_upd, hid_none hD]
    exact Step.refl
  rintro i m H2 ⟨rfl, hil, e2, Fs2, acc, ys, A, S2, hn2, hl, hD2, hal, rl, tkA, ogA, s2⟩
  have trA := rl
  have thA : ∀ b ∈ A, ∃ o, hid L0 H2 b = some o := rl.there
  have hDA : L0 ∉ A := fun z => by
    obtain ⟨o, e⟩ := thA L0 z
    rw [hid_same] at e; cases e
  have kF : ∀ b ∈ F, ∀ o, H1 b = some o → H2 b = some o := fun b hb o e => hid_keep b o ((TOK.pass S1B tk io.tr s2 fun i h => k1 i (List.mem_append_left _ h)).2 b hb o e)
  have nDs : ∀ (j : Nat) (G : List Addr), Fs2[j]? = some G → L0 ∉ G := fun j G e z => by
    obtain ⟨o, e'⟩ := S2.fp e L0 z
    rw [hid_same] at e'; cases e'
  by_cases hlt : i < ds.length
  · obtain ⟨hgo, hy⟩ := io.go H2 kF i ds[i] (List.getElem?_eq_getElem hlt)
    refine .inr ⟨hgo, Inv (i + 1), fun H' h => ⟨ds.length - (i + 1), by omega, rfl, hlt, h⟩, fun x H3 y => ?_⟩
    obtain ⟨q3, G, rpx, hG⟩ := hy x H3 y
    rw [List.drop_eq_getElem_cons hlt] at hl
    unfold lcA at hl
    split at hl
    · cases hl
    rename_i e3 hd3
    have k3 : ∀ b o, hid L0 H2 b = some o → H3 b = some o := fun b o e => q3 b o (hid_keep b o e)
    have S3 : SI P flB (wipe σ vs) e2 H3 Fs2 := S2.grow k3
    have sepC2 : Sep flB Fs2 Fc := fun j n L' a1 a2 b hb hF => by
      rcases (s2.s S2 SubF.refl).regs j n L' a1 a2 b hb with z | ⟨k, m, G', _, a3, a4, hG'⟩
      · obtain ⟨o, e⟩ := trC b hF
        rw [e] at z; cases z
      · exact sepC0 k m G' a3 a4 b hG' hF
    have hDG : L0 ∉ G := fun z => by
      rcases hG L0 z with z | z
      · rw [hD2] at z; cases z
      · exact hDF (io.sub L0 z)
    have newG : ∀ b ∈ G, hid L0 H2 b = none ∨ b ∈ Fc := fun b hb => (hG b hb).imp (fun z => by
      have : b ≠ L0 := fun w => hDG (w ▸ hb)
      rw [hid_ne this]; exact z) fun z => z
    refine Tg.ok S3 rpx (fun j n L' a1 a2 b hb hF => ?_) (fun b hb => ?_) knd (fun j hj => ⟨0, k6B j (k5 j hj), by omega⟩) k4 hd3 fun σ4 Fs4 S4 p4 hw4 => ?_
    · rcases newG b hF with z | z
      · obtain ⟨o, e⟩ := S2.fp a2 b (reg_sub b hb)
        rw [z] at e; cases e
      · exact sepC2 j n L' a1 a2 b hb z
    · rcases newG b hb with z | z
      · exact .inl (S2.new z)
      · exact basC b z
    have hw4 : wipe σ4 vs = wipe σ vs := by rw [hw4 vs k5, wipe_wipe]
    refine ⟨hw4, ?_⟩
    -- behind the turn: H5, Fs6, e5 reached from H3, Fs4 by a step
    have after : ∀ {e5 : Env} {H5 : Hp} {Fs6 : List (List Addr)}, SI P flB σ4 e5 H5 Fs6 → Step lvb flB H3 Fs4 H5 Fs6 →
        H5 L0 = some (.lst acc) ∧ (∀ (j : Nat) (G : List Addr), Fs6[j]? = some G → L0 ∉ G) ∧ SI P flB (wipe σ vs) (clr vs e5) (hid L0 H5) (clrF vs Fs6) ∧ (∀ j ∈ vs, (clr vs e5)[j]? = some none) ∧ Step lvb flB (hid L0 H2) Fs2 (hid L0 H5) (clrF vs Fs6) := fun {e5 H5 Fs6} S6 s46 => by
      have h3D : H3 L0 = some (.lst acc) := q3 _ _ hD2
      have f4 : ∀ (k : Nat) (G : List Addr), k ∉ vs → Fs4[k]? = some G → Fs2[k]? = some G := fun k G hk e => by
        rw [← p4.out k fun z => hk (k5 k z)]; exact e
      have nD4 : ∀ (k : Nat) (G' : List Addr), Fs4[k]? = some G' → L0 ∉ G' := fun k G' e z => by
        by_cases hk : k ∈ t.slots
        · exact hDG (p4.at_ k hk G' e _ z)
        · rw [p4.out k hk] at e
          exact nDs k G' e z
      have frv : ∀ k, Free flB lvb k → k ∉ vs := fun k f z => nfv k z f
      have h5D : H5 L0 = some (.lst acc) := s46.keep L0 _ h3D fun k G f e => nD4 k G e
      have nD6 : ∀ (j : Nat) (G : List Addr), Fs6[j]? = some G → L0 ∉ G := fun j G' e z => by
        rcases s46.new j G' e _ z with ⟨k, L', ek, hL, _⟩ | z
        · exact nD4 k L' ek hL
        · rw [h3D] at z; cases z
      have hv0 : ∀ i ∈ vs, flB[i]? ≠ some 3 := fun i hi z => by rw [k6B i hi] at z; cases z
      have nn : ∀ j ∈ vs, (clr vs e5)[j]? = some none := fun j hj => by
        rw [clr_at, if_pos hj]
        have : j < e5.length := by rw [← S6.l2]; exact (List.getElem?_eq_some_iff.mp (k6B j hj)).1
        rw [List.getElem?_eq_getElem this]
        rfl
      have S7 : SI P flB σ4 (clr vs e5) (hid L0 H5) (clrF vs Fs6) := (S6.clear hv0).hide (fun j G e => by
        rw [clrF_at] at e
        split at e
        · cases h : Fs6[j]? with
          | none => rw [h] at e; cases e
          | some x => rw [h] at e; cases e; exact List.not_mem_nil
        · exact nD6 j G e) h0D hMD
      refine ⟨h5D, nD6, wσ (fl4 := fl1) S7 nn hw4, nn, ⟨fun b o e hb => ?_, fun j hj => ?_, fun j G' e b hb => ?_, fun b o e => ?_⟩⟩
      · obtain ⟨nb, e'⟩ := hid_some e
        rw [hid_ne nb]
        refine s46.keep b o (q3 b o e') fun k G f ek => hb k G f (f4 k G (frv k f) ek)
      · rw [clrF_at]
        by_cases hv : j ∈ vs
        · rw [if_pos hv, S2.nul j (hn2 j hv)]
          have : j < Fs6.length := by rw [S6.l3, ← S6.l2]; exact (List.getElem?_eq_some_iff.mp (k6B j hv)).1
          rw [List.getElem?_eq_getElem this]
          rfl
        · rw [if_neg hv, s46.same j hj, p4.out j fun z => hv (k5 j z)]
      · rw [clrF_at] at e
        by_cases hv : j ∈ vs
        · rw [if_pos hv] at e
          cases h : Fs6[j]? with
          | none => rw [h] at e; cases e
          | some x => rw [h] at e; cases e; cases hb
        · rw [if_neg hv] at e
          rcases s46.new j G' e b hb with ⟨k, L', ek, hL, hk⟩ | z
          · have kv : k ∉ vs := by
              rcases hk with rfl | hk
              · exact hv
              · exact frv k hk
            exact .inl ⟨k, L', f4 k L' kv ek, hL, hk⟩
          · refine .inr ?_
            cases q : hid L0 H2 b with
            | none => rfl
            | some o =>
              rw [k3 b o q] at z; cases z
      · obtain ⟨nb, e'⟩ := hid_some e
        obtain ⟨o', h⟩ := s46.there b o (q3 b o e')
        exact ⟨o', by rw [hid_ne nb]; exact h⟩
    refine ht.bind S4 hl hQ.ex _ fun c e4 hl H4 Fs5 S5 s45 => ?_
    cases c with
    | false =>
      rw [if_neg (by decide)]
      obtain ⟨a1, a2, a3, a4, a5⟩ := after S5 s45
      obtain ⟨tk', kp'⟩ := TOK.pass S2 tkA thA a5 k2a
      exact ⟨clr vs e4, clrF vs Fs5, acc, ys, A, a3, a4, hl, a1, by omega, rl.keep kp', tk', ogA, s2.trans a5 SubF.refl fun _ z => z⟩
    | true =>
      rw [if_pos rfl]
      simp only [cIf_t] at hl
      refine he.bind S5 hl hQ.ex _ fun y e5 _ hl v F5 H5 Fs6 S6 s56 rp tk5 og5 => ?_
      obtain ⟨b1, b2, _, _, _⟩ := after S5 s45
      obtain ⟨a1, a2, a3, a4, a5⟩ := after S6 (s45.trans s56 SubF.refl fun _ z => z)
      obtain ⟨tk', kp'⟩ := TOK.pass S2 tkA thA a5 k2a
      have hz : ds.length ≤ sizeLine := io.len
      refine ⟨acc, a1, by omega, ?_⟩
      have s26 := a5
      have sall : Step lvb flB H1 Fs1 (hid L0 H5) (clrF vs Fs6) := s2.trans a5 SubF.refl fun _ z => z
      obtain ⟨tkc', _⟩ := TOK.pass S1B tkc trC sall fun i h => k1 i (List.mem_append_right _ (List.mem_append_left _ h))
      have f4 : ∀ (k : Nat) (G : List Addr), k ∉ vs → Fs4[k]? = some G → Fs2[k]? = some G := fun k G hk e => by
        rw [← p4.out k fun z => hk (k5 k z)]; exact e
      have hDF5 : L0 ∉ F5 := fun z => by
        rcases og5 _ z with w | ⟨j, G', e, hG', _⟩
        · rw [b1] at w; cases w
        · exact b2 j G' e hG'
      have k5h : ∀ b ∈ F5, ∀ o, H5 b = some o → hid L0 H5 b = some o := fun b hb o e => by
        have : b ≠ L0 := fun w => hDF5 (w ▸ hb)
        rw [hid_ne this]; exact e
      -- where the new item's things came from
      have src : ∀ b ∈ F5, hid L0 H2 b = none ∨ (∃ (j : Nat) (G' : List Addr), Fs2[j]? = some G' ∧ b ∈ G' ∧ (ale = .own → Free flB lvb j)) ∨ (b ∈ Fc ∧ ale ≠ .own) := fun b hb => by
        have n3 : H3 b = none → hid L0 H2 b = none := fun z => by
          cases q : hid L0 H2 b with
          | none => rfl
          | some o => rw [k3 b o q] at z; cases z
        rcases (og5.back s45 SubF.refl fun _ z => z) b hb with z | ⟨j, G', e, hG', fr⟩
        · exact .inl (n3 z)
        · by_cases hj : j ∈ t.slots
          · have ne : ale ≠ .own := fun w => nfv j (k5 j hj) (fr w)
            rcases newG b (p4.at_ j hj G' e b hG') with w | w
            · exact .inl w
            · exact .inr (.inr ⟨w, ne⟩)
          · rw [p4.out j hj] at e
            exact .inr (.inl ⟨j, G', e, hG', fr⟩)
      have apart : alR ale alc vs = .own → ∀ b ∈ A, b ∉ F5 := fun w b hA hb => by
        obtain ⟨o, e⟩ := thA b hA
        rcases src b hb with z | ⟨j, G', e', hG', _⟩ | ⟨_, z⟩
        · rw [e] at z; cases z
        · rcases tkA.pt b hA with ⟨k, _, hk, _⟩ | ⟨_, h⟩
          · rw [w] at hk; cases hk
          · exact h j G' e' hG'
        · exact z (alR_own w)
      have c6 : ∀ (j : Nat) (G' : List Addr), (clrF vs Fs6)[j]? = some G' → ∀ b ∈ G', j ∉ vs ∧ Fs6[j]? = some G' := fun j G' e b hb => by
        rw [clrF_at] at e
        by_cases hv : j ∈ vs
        · rw [if_pos hv] at e
          cases h : Fs6[j]? with
          | none => rw [h] at e; cases e
          | some x => rw [h] at e; cases e; cases hb
        · rw [if_neg hv] at e
          exact ⟨hv, e⟩
      have tkN : TOK P.H0 (alR ale alc vs) (hid L0 H5) (clrF vs Fs6) F5 := by
        refine ⟨fun b hb => ?_, fun w => ⟨(tk5.own (alR_own w)).1, fun b hb => ((tk5.own (alR_own w)).2 b hb).keep (k5h b hb)⟩, fun i w => absurd w (alR_var i), fun i w => absurd w (alR_sub i)⟩
        rcases tk5.pt b hb with ⟨k, G', hk, ek, hG'⟩ | ⟨z, h⟩
        · have ne : ale ≠ .own := fun w => by rw [w] at hk; cases hk
          by_cases hv : k ∈ vs
          · have e4 : Fs4[k]? = some G' := by
              rw [← (s45.trans s56 SubF.refl fun _ z => z).same k (nfv k hv)]
              exact ek
            have hkt : k ∈ t.slots := by
              rcases Classical.em (k ∈ t.slots) with w | w
              · exact w
              · rw [p4.out k w, S2.nul k (hn2 k hv)] at e4
                cases e4; cases hG'
            rcases newG b (p4.at_ k hkt G' e4 b hG') with w | w
            · refine .inr ⟨S2.new w, fun j L' e hL => ?_⟩
              rcases a5.new j L' e b hL with ⟨k2, L2, e2', hL2, _⟩ | _
              · obtain ⟨o, e''⟩ := S2.fp e2' b hL2
                rw [w] at e''; cases e''
              · obtain ⟨jv, e6⟩ := c6 j L' e b hL
                rcases (s45.trans s56 SubF.refl fun _ z => z).new j L' e6 b hL with ⟨k2, L2, e2', hL2, hk2⟩ | z
                · have : k2 ∉ vs := by
                    rcases hk2 with rfl | hk2
                    · exact jv
                    · exact fun z => nfv k2 z hk2
                  obtain ⟨o, e''⟩ := S2.fp (f4 k2 L2 this e2') b hL2
                  rw [w] at e''; cases e''
                · obtain ⟨o, e''⟩ := rpx.there b (p4.at_ k hkt G' e4 b hG')
                  rw [z] at e''; cases e''
            · rcases tkc'.pt b w with ⟨j, L', hj, ej, hL⟩ | w
              · exact .inl ⟨j, L', alR_c ne j hj, ej, hL⟩
              · exact .inr w
          · exact .inl ⟨k, G', alR_e ne k hk hv, by rw [clrF_at, if_neg hv]; exact ek, hG'⟩
        · exact .inr ⟨z, fun j L' e hL => h j L' (c6 j L' e b hL).2 hL⟩
      refine ⟨clr vs e5, clrF vs Fs6, acc ++ [v], ys ++ [y], A ++ F5, ?_, a4, hl, upd_same, by simp; omega, ?_, ?_, fun b hb => ?_, ?_⟩
      · rw [hid_upd]; exact a3
      · rw [hid_upd]
        refine (rl.keep kp').append ?_
        have := RpL.cons (rp.keep k5h) .nil
        rwa [List.append_nil] at this
      · rw [hid_upd]
        refine ⟨fun b hb => ?_, fun w => ?_, fun i w => absurd w (alR_var i), fun i w => absurd w (alR_sub i)⟩
        · rcases List.mem_append.mp hb with hb | hb
          · exact tk'.pt b hb
          · exact tkN.pt b hb
        · refine ⟨List.nodup_append.mpr ⟨(tk'.own w).1, (tkN.own w).1, fun a ha b hb z => apart w a ha (z ▸ hb)⟩, fun b hb => ?_⟩
          rcases List.mem_append.mp hb with hb | hb
          · exact (tk'.own w).2 b hb
          · exact (tkN.own w).2 b hb
      · rcases List.mem_append.mp hb with hb | hb
        · exact ogA b hb
        · have low : ∀ i ∈ lv, i ∈ lvb := fun i h => k1 i (List.mem_append_right _ (List.mem_append_right _ h))
          have sf : SubF flB fl := (flLe_sub hB).trans hi.1
          have back : (hid L0 H2 b = none ∨ ∃ (j : Nat) (G' : List Addr), Fs2[j]? = some G' ∧ b ∈ G' ∧ (alR ale alc vs = .own → Free flB lvb j)) → H b = none ∨ ∃ (j : Nat) (G' : List Addr), Fs[j]? = some G' ∧ b ∈ G' ∧ (alR ale alc vs = .own → Free fl lv j) := fun w => by
            have o2 : Org lvb flB (hid L0 H2) Fs2 (alR ale alc vs) [b] := fun c hc => by
              have : c = b := by simpa using hc
              subst this
              exact w
            exact (((o2.back s2 SubF.refl fun _ z => z).back (Step.refl (lv := lvb) (fl := flB)) SubF.refl fun _ z => z).back st sf low) b (by simp)
          rcases src b hb with z | ⟨j, G', e, hG', fr⟩ | ⟨z, ne⟩
          · exact back (.inl z)
          · exact back (.inr ⟨j, G', e, hG', fun w => fr (alR_own w)⟩)
          · exact (og.weak (al' := alR ale alc vs) fun w => absurd (alR_own w) ne) b (io.sub b z)
      · rw [hid_upd]; exact sall
  · have ei : i = ds.length := by omega
    subst ei
    refine .inl ⟨io.stop H2 kF, ?_⟩
    rw [List.drop_length] at hl
    cases hl
    have Sf : SI P flB σ _ (hid L0 H2) Fs2 := S2.sigma (by rw [wipe_length]) (fun i d e => by
      rw [wipe_at, if_neg]
      intro z
      rw [hn2 i z] at e; cases e) fun i e => by
      rw [wipe_at, if_neg]
      intro z
      rw [k6B i z] at e; cases e
    have Sr : SI P fl1 σ _ (hid L0 H2) Fs2 := SI.restore S1 Sf hB s2 fun i n e => by
      rw [← hflB]
      by_cases hi : i ∈ alc.slots
      · exact .inr (k1 i (List.mem_append_right _ (List.mem_append_left _ hi)))
      · refine .inl ?_
        unfold demote
        rw [dmF_get, e]
        simp only [Option.map_some, Nat.zero_add]
        congr 1
        cases alc with
        | own => rfl
        | var j =>
          have : i ≠ j := by simpa [AL.slots] using hi
          simp [dm, this]
        | sub j =>
          have : i ≠ j := by simpa [AL.slots] using hi
          simp [dm, this]
        | mix l =>
          have : i ∉ l := by simpa [AL.slots] using hi
          simp [dm, this]
    have hup : upd (hid L0 H2) L0 (.lst acc) = H2 := upd_hid hD2
    have tkn := TOK.new (o := .lst acc) Sr tkA thA hid_same (by cases ale <;> rfl) live_lst
    rw [hup] at tkn
    have low : ∀ i ∈ lv, i ∈ lvb := fun i h => k1 i (List.mem_append_right _ (List.mem_append_right _ h))
    have sfB : SubF flB fl1 := flLe_sub hB
    have s2' : Step lv fl1 H1 Fs1 (hid L0 H2) Fs2 := Step.trans (Step.refl (lv := lv) (fl := fl1)) s2 sfB low
    refine hQ (.ref L0) (L0 :: A) H2 Fs2 (Sr.grow hid_keep) ((st.trans s2' hi.1 fun _ z => z).trans (Step.grow hid_keep) hi.1 fun _ z => z) (.lst hD2 (by have := io.len; omega) (rl.keep fun b _ => hid_keep b)) tkn fun b hb => ?_
    rcases List.mem_cons.mp hb with rfl | hb
    · exact .inl (st.back0 hD)
    · exact ogA b hb
end
end VL
/-! V9: a def's body keeps its promise. -/
namespace VL
open PySem PySem.Spec L2
variable {K : PySem.W.Frag}
/-- the places of the changed parameters -/
def ioIx : Nat → List Bool → List Nat
  | _, [] => []
  | k, true :: ks => k :: ioIx (k + 1) ks
  | k, false :: ks => ioIx (k + 1) ks
theorem ioIx_mem : ∀ {ks : List Bool} {k i : Nat}, i ∈ ioIx k ks ↔ k ≤ i ∧ ks[i - k]? = some true
  | [], k, i => by simp [ioIx]
  | b :: ks, k, i => by
    have ih := ioIx_mem (ks := ks) (k := k + 1) (i := i)
    cases b with
    | true =>
      simp only [ioIx, List.mem_cons, ih]
      constructor
      · rintro (rfl | ⟨h1, h2⟩)
        · exact ⟨Nat.le_refl _, by simp⟩
        · refine ⟨by omega, ?_⟩
          rw [show i - k = (i - (k + 1)) + 1 by omega]
          simpa using h2
      · rintro ⟨h1, h2⟩
        by_cases e : i = k
        · exact .inl e
        · refine .inr ⟨by omega, ?_⟩
          rw [show i - k = (i - (k + 1)) + 1 by omega] at h2
          simpa using h2
    | false =>
      simp only [ioIx, ih]
      constructor
      · rintro ⟨h1, h2⟩
        refine ⟨by omega, ?_⟩
        rw [show i - k = (i - (k + 1)) + 1 by omega]
        simpa using h2
      · rintro ⟨h1, h2⟩
        by_cases e : i = k
        · subst e; simp at h2
        · refine ⟨by omega, ?_⟩
          rw [show i - k = (i - (k + 1)) + 1 by omega] at h2
          simpa using h2
theorem ioIx_nodup : ∀ {ks : List Bool} {k : Nat}, (ioIx k ks).Nodup
  | [], _ => List.nodup_nil
  | true :: ks, k => List.nodup_cons.mpr ⟨fun h => by have := (ioIx_mem.mp h).1; omega, ioIx_nodup⟩
  | false :: ks, k => ioIx_nodup (ks := ks)
def flags0 (ks : List Bool) (n : Nat) : List Nat := ks.map (fun b => if b then 3 else 0) ++ List.replicate (n - ks.length) 0
def env0 (ds : List D) (n : Nat) : Env := ds.map some ++ List.replicate (n - ds.length) none
/-- the changed parameters' data at the end -/
def outIO (e : Env) : List Nat → Option (List D)
  | [] => some []
  | i :: is => match e[i]? with
    | some (some d) => (outIO e is).map (d :: ·)
    | _ => none
/-- what a body's statements make of the arguments -/
def fmOf (ks : List Bool) (n : Nat) (sv : Sv) : Fm := fun ds => match sv (env0 ds n) with
  | some (.ok (.rt d), e) => (outIO e (ioIx 0 ks)).map fun l => (.ok d, l)
  | some (.ok .nx, e) => (outIO e (ioIx 0 ks)).map fun l => (.ok .non, l)
  | some (.ex x, _) => some (.ex x, [])
  | _ => none
structure Start (K : PySem.W.Frag) (H : Hp) (ks : List Bool) (vs : List V) (ds : List D) (Fv : List Addr) (Ms : List (List Addr)) (Fs : List (List Addr)) : Prop where
  lf : Fs.length = ks.length
  ld : ds.length = ks.length
  lv : vs.length = ks.length
  rep : ∀ (i : Nat) (d : D), ds[i]? = some d → ∃ (v : V) (F : List Addr), vs[i]? = some v ∧ Fs[i]? = some F ∧ Rp K H v d F
  io : ∀ (i : Nat) (F : List Addr), ks[i]? = some true → Fs[i]? = some F → F ∈ Ms
  vl : ∀ (i : Nat) (F : List Addr), ks[i]? = some false → Fs[i]? = some F → ∀ b ∈ F, b ∈ Fv
  dj : Ms.flatten.Nodup → ∀ (i j : Nat) (F G : List Addr), i ≠ j → ks[i]? = some true → ks[j]? = some true → Fs[i]? = some F → Fs[j]? = some G → ∀ b ∈ F, b ∉ G
  ms : Ms = (ioIx 0 ks).map fun i => (Fs[i]?).getD []
theorem ioIx_map {α : Type} : ∀ {ks : List Bool} {k : Nat} {f : Nat → α} {g : Nat → α}, (∀ i, f (k + i) = g i) → (ioIx k ks).map f = (ioIx 0 ks).map g := by
  have shift : ∀ (ks : List Bool) (k : Nat), ioIx k ks = (ioIx 0 ks).map (k + ·) := by
    intro ks
    induction ks with
    | nil => intro k; rfl
    | cons b ks ih =>
      intro k
      cases b with
      | true =>
        simp only [ioIx, List.map_cons, Nat.add_zero]
        rw [ih (k + 1), ih (0 + 1), List.map_map]
        congr 1
        refine List.map_congr_left fun i _ => ?_
        simp only [Function.comp]
        omega
      | false =>
        simp only [ioIx]
        rw [ih (k + 1), ih (0 + 1), List.map_map]
        refine List.map_congr_left fun i _ => ?_
        simp only [Function.comp]
        omega
  intro ks k f g h
  rw [shift ks k, List.map_map]
  exact List.map_congr_left fun i _ => h i
theorem args_start {H : Hp} {ks : List Bool} {vs : List V} {ds : List D} {Fv : List Addr} {Ms : List (List Addr)} (h : ArgsIn K H ks vs ds Fv Ms) : ∃ Fs, Start K H ks vs ds Fv Ms Fs := by
  induction h with
  | nil => exact ⟨[], rfl, rfl, rfl, fun i d e => by simp at e, fun i F e => by simp at e, fun i F e => by simp at e, fun _ i j F G _ e => by simp at e, rfl⟩
  | @val v d F ks vs ds G Ms r _ ih =>
    obtain ⟨Fs, s⟩ := ih
    refine ⟨F :: Fs, by simp [s.lf], by simp [s.ld], by simp [s.lv], fun i e h => ?_, fun i L e h => ?_, fun i L e h b hb => ?_, fun nd i j A B ne e1 e2 h1 h2 => ?_, ?_⟩
    · cases i with
      | zero => simp at h; subst h; exact ⟨v, F, rfl, rfl, r⟩
      | succ i => simpa using s.rep i e (by simpa using h)
    · cases i with
      | zero => simp at e
      | succ i => exact s.io i L (by simpa using e) (by simpa using h)
    · cases i with
      | zero => simp at h; subst h; exact List.mem_append_left _ hb
      | succ i => exact List.mem_append_right _ (s.vl i L (by simpa using e) (by simpa using h) b hb)
    · cases i with
      | zero => simp at e1
      | succ i =>
        cases j with
        | zero => simp at e2
        | succ j => exact s.dj nd i j A B (by omega) (by simpa using e1) (by simpa using e2) (by simpa using h1) (by simpa using h2)
    · rw [s.ms]
      show _ = (ioIx 1 ks).map _
      exact (ioIx_map fun i => by rw [Nat.add_comm 1 i]; simp).symm
  | @io v d F ks vs ds G Ms r _ ih =>
    obtain ⟨Fs, s⟩ := ih
    refine ⟨F :: Fs, by simp [s.lf], by simp [s.ld], by simp [s.lv], fun i e h => ?_, fun i L e h => ?_, fun i L e h b hb => ?_, fun nd i j A B ne e1 e2 h1 h2 => ?_, ?_⟩
    · cases i with
      | zero => simp at h; subst h; exact ⟨v, F, rfl, rfl, r⟩
      | succ i => simpa using s.rep i e (by simpa using h)
    · cases i with
      | zero => simp at h; subst h; exact List.mem_cons_self
      | succ i => exact List.mem_cons_of_mem _ (s.io i L (by simpa using e) (by simpa using h))
    · cases i with
      | zero => simp at e
      | succ i => exact s.vl i L (by simpa using e) (by simpa using h) b hb
    · rw [List.flatten_cons, List.nodup_append] at nd
      obtain ⟨_, nd2, nd3⟩ := nd
      cases i with
      | zero =>
        cases j with
        | zero => exact absurd rfl ne
        | succ j =>
          simp at h1; subst h1
          intro b hb hB
          exact nd3 b hb b (List.mem_flatten.mpr ⟨B, s.io j B (by simpa using e2) (by simpa using h2), hB⟩) rfl
      | succ i =>
        cases j with
        | zero =>
          simp at h2; subst h2
          intro b hb hB
          exact nd3 b hB b (List.mem_flatten.mpr ⟨A, s.io i A (by simpa using e1) (by simpa using h1), hb⟩) rfl
        | succ j => exact s.dj nd2 i j A B (by omega) (by simpa using e1) (by simpa using e2) (by simpa using h1) (by simpa using h2)
    · rw [s.ms]
      show F :: _ = ((F :: Fs)[0]?).getD [] :: (ioIx 1 ks).map _
      congr 1
      exact (ioIx_map fun i => by rw [Nat.add_comm 1 i]; simp).symm
theorem get_pad {α : Type} {l : List α} {m : Nat} {a : α} {i : Nat} {x : α} (h : (l ++ List.replicate m a)[i]? = some x) : l[i]? = some x ∨ (l.length ≤ i ∧ i < l.length + m ∧ x = a) := by
  by_cases hi : i < l.length
  · rw [List.getElem?_append_left hi] at h
    exact .inl h
  · rw [List.getElem?_append_right (by omega), List.getElem?_replicate] at h
    split at h
    · cases h; exact .inr ⟨by omega, by omega, rfl⟩
    · cases h
theorem out_ok {P : Cz} {fl : List Nat} {σ : L2.St} {env : Env} {H0 H : Hp} {Fs : List (List Addr)} (S : SI P fl σ env H Fs) (hH : P.H0 = H0) : ∀ {ks : List Bool} {vs : List V} {k : Nat} {ios : List D} {Ms : List (List Addr)}, vs.length = ks.length → (∀ i, ks[i]? = some true → fl[k + i]? = some 3) → (∀ i v, vs[i]? = some v → P.Vi (k + i) = v) →
    Ms = (ioIx k ks).map P.Mi → outIO env (ioIx k ks) = some ios → IOut P.K H0 H ks vs ios Ms ((ioIx k ks).map (fF Fs))
  | [], [], k, ios, Ms, _, _, _, hM, ho => by subst hM; cases ho; exact .nil
  | [], _ :: _, _, _, _, hl, _, _, _, _ => by cases hl
  | _ :: _, [], _, _, _, hl, _, _, _, _ => by cases hl
  | false :: ks, v :: vs, k, ios, Ms, hl, h3, hv, hM, ho => .val (out_ok S hH (ks := ks) (k := k + 1) (by simpa using hl) (fun i e => by rw [show k + 1 + i = k + (i + 1) by omega]; exact h3 (i + 1) (by simpa using e)) (fun i w e => by rw [show k + 1 + i = k + (i + 1) by omega]; exact hv (i + 1) w (by simpa using e)) hM ho)
  | true :: ks, v :: vs, k, ios, Ms, hl, h3, hv, hM, ho => by
    have e3 : fl[k]? = some 3 := h3 0 rfl
    simp only [ioIx] at ho hM ⊢
    unfold outIO at ho
    split at ho
    · rename_i d e
      simp only [Option.map_eq_some_iff] at ho
      obtain ⟨l, hl', rfl⟩ := ho
      obtain ⟨w, F, h1, h2, r⟩ := S.rep k d e
      have ev : P.Vi k = v := hv 0 v rfl
      rw [S.vi k e3, ev] at h1
      cases h1
      have o := S.own k 3 F e3 h2
      have ef : fF Fs k = F := by show (Fs[k]?).getD [] = F; rw [h2]; rfl
      subst hM
      rw [List.map_cons, List.map_cons, ef]
      refine .io r (fun b hb => ?_) (out_ok S hH (ks := ks) (k := k + 1) (by simpa using hl) (fun i e => by rw [show k + 1 + i = k + (i + 1) by omega]; exact h3 (i + 1) (by simpa using e)) (fun i w e => by rw [show k + 1 + i = k + (i + 1) by omega]; exact hv (i + 1) w (by simpa using e)) rfl hl')
      rcases (o.pt b (by rw [reg2 (by omega)]; exact hb)).1 with z | ⟨_, z, _⟩
      · exact .inl (by rw [← hH]; exact z)
      · exact .inr z
    · cases ho
theorem body_okG {ca : String → Addr} {ks : List Bool} {fr : Bool} {sv : Sv} {N : List Str} {vs : List V} {H : Hp} {Q : VK} {E : XK} {ts : TS} {L fl' : List Nat} {n : Nat} (hn : N.length = n) (hks : ks.length ≤ n) (h : ∀ P : Cz, P.ca = ca → P.E = E → P.K = K → RS P ⟨ioIx 0 ks, fr⟩ [] (flags0 ks n) ts sv L fl') (hend : retOk ⟨ioIx 0 ks, fr⟩ fl' .own = true) {ds : List D} {Fv : List Addr} {Ms : List (List Addr)} {r : Rs D} {ios : List D} (hA : ArgsIn K H ks vs ds Fv Ms) (hN : Ms.flatten.Nodup) (hL : ∀ F ∈ Ms, ∀ b ∈ F, Live H b ∧ b ∉ Fv) 
    (hr : match r with | .ok d => ∀ (v : V) (H' : Hp) (F' : List Addr) (Ms' : List (List Addr)), Post K H H' ks fr vs Fv Ms d ios v F' Ms' → Q v H' | .ex x => ∀ (c : Value) (dr : Option Addr) (H' : Hp), (∀ b o, H b = some o → (∀ F ∈ Ms, b ∉ F) → H' b = some o) → ExRep ca x c dr H' → E c dr H') (hf : fmOf ks n sv ds = some (r, ios)) {Dn : Ends}
    (hD1 : ∀ σ' H', (∀ i ∈ ioIx 0 ks, σ'[i]? = some (some ((vs[i]?).getD .non))) → Q .non H' → Dn.nx σ' H') (hD2 : ∀ d e, sv (env0 ds n) = some (.ok (.rt d), e) → ∀ v H', Q v H' → Dn.rt v H') :
    ts Dn (L2.start N vs) H := by
  obtain ⟨Fs0, st⟩ := args_start hA
  let P : Cz := ⟨H, Ms.flatten, fun i => (Fs0[i]?).getD [], fun i => (vs[i]?).getD .non, Fv, E, ca, K⟩
  have hMs : ∀ F ∈ Ms, ∀ b ∈ F, b ∈ Ms.flatten := fun F hF b hb => List.mem_flatten.mpr ⟨F, hF, hb⟩
  have lv := st.lv
  have ld := st.ld
  have lf := st.lf
  have S : SI P (flags0 ks n) (L2.start N vs) (env0 ds n) H (Fs0 ++ List.replicate (n - ks.length) []) := by
    refine ⟨?_, ?_, ?_, fun i d e => ?_, fun i e => ?_, fun i m F a b => ?_, fun b o e _ => e, fun b hb => ?_, fun i e => ?_⟩
    · unfold L2.start env0
      simp only [List.length_append, List.length_map, List.length_replicate]
      omega
    · unfold flags0 env0
      simp only [List.length_append, List.length_map, List.length_replicate]
      omega
    · unfold env0
      simp only [List.length_append, List.length_map, List.length_replicate]
      omega
    · unfold env0 at e
      rcases get_pad e with e | ⟨_, _, e⟩
      · rw [List.getElem?_map] at e
        cases q : ds[i]? with
        | none => rw [q] at e; cases e
        | some d' =>
          rw [q] at e
          simp only [Option.map_some, Option.some.injEq] at e
          subst e
          obtain ⟨v, F, h1, h2, r⟩ := st.rep i d' q
          have h1' := (List.getElem?_eq_some_iff.mp h1).1
          have h2' := (List.getElem?_eq_some_iff.mp h2).1
          refine ⟨v, F, ?_, ?_, r⟩
          · unfold L2.start
            rw [List.getElem?_append_left (by simpa using h1'), List.getElem?_map, h1]
            rfl
          · rw [List.getElem?_append_left h2']; exact h2
      · cases e
    · unfold env0 at e
      rcases get_pad e with e | ⟨e, e', _⟩
      · rw [List.getElem?_map] at e
        cases q : ds[i]? with
        | none => rw [q] at e; cases e
        | some d' => rw [q] at e; cases e
      · simp only [List.length_map] at e e'
        rw [List.getElem?_append_right (by omega), List.getElem?_replicate, if_pos (by omega)]
    · unfold flags0 at a
      rcases get_pad b with b | ⟨_, _, rfl⟩
      · have hi := (List.getElem?_eq_some_iff.mp b).1
        rw [List.getElem?_append_left (by simp; omega), List.getElem?_map] at a
        have hk : i < ks.length := by omega
        rw [List.getElem?_eq_getElem hk] at a
        simp only [Option.map_some, Option.some.injEq] at a
        have ek := List.getElem?_eq_getElem hk
        cases q : ks[i] with
        | false =>
          rw [q] at a ek
          have : m = 0 := by simpa using a.symm
          subst this
          exact own0 fun c hc => .inr (st.vl i F ek b c hc)
        | true =>
          rw [q] at a ek
          have : m = 3 := by simpa using a.symm
          subst this
          have hF := st.io i F ek b
          have ndF : F.Nodup := hN.sublist (List.sublist_flatten_of_mem hF)
          refine ⟨fun _ => ndF, fun z => by omega, fun c hc => ⟨.inr ⟨rfl, ?_, hMs F hF c (reg_sub c hc)⟩, (hL F hF c (reg_sub c hc)).1, fun j G hj eG hG => ?_⟩, fun z => absurd rfl z⟩
          · show c ∈ (Fs0[i]?).getD []
            rw [b]; exact reg_sub c hc
          · rcases get_pad eG with eG | ⟨_, _, rfl⟩
            · have hj' : j < ks.length := by
                have := (List.getElem?_eq_some_iff.mp eG).1
                omega
              have ej := List.getElem?_eq_getElem hj'
              cases q' : ks[j] with
              | false =>
                rw [q'] at ej
                exact (hL F hF c (reg_sub c hc)).2 (st.vl j G ej eG c hG)
              | true =>
                rw [q'] at ej
                exact st.dj hN i j F G (Ne.symm hj) ek ej b eG c (reg_sub c hc) hG
            · cases hG
      · refine ⟨fun _ => List.nodup_nil, (fun _ a G e => by cases e), fun c hc => (nomatch (reg_sub c hc)), fun _ c hc => nomatch hc⟩
    · obtain ⟨F, hF, hb⟩ := List.mem_flatten.mp hb
      exact (hL F hF b hb).1.there
    · unfold flags0 at e
      rcases get_pad e with e | ⟨_, _, e⟩
      · rw [List.getElem?_map] at e
        have hk : i < ks.length := by
          cases q : ks[i]? with
          | none => rw [q] at e; cases e
          | some b => exact (List.getElem?_eq_some_iff.mp q).1
        unfold L2.start
        rw [List.getElem?_append_left (by simp; omega), List.getElem?_map]
        show (vs[i]?).map some = some (some ((vs[i]?).getD .non))
        rw [List.getElem?_eq_getElem (by omega)]
        rfl
      · cases e
  have done : ∀ {e : Env} {v : V} {d : D} {H' : Hp} {ios : List D}, Ret P (ioIx 0 ks) fr e H' v d → outIO e (ioIx 0 ks) = some ios → ∃ F' Ms', Post K H H' ks fr vs Fv Ms d ios v F' Ms' := fun {e v d H' ios} ret ho => by
    obtain ⟨fl, σ, Fs, al, F, S', rp, tk, h3, hfr, hal⟩ := ret.at_
    have hio : ∀ i ∈ ioIx 0 ks, ∃ m, fl[i]? = some m ∧ 2 ≤ m := fun i hi => ⟨3, h3 i hi, by omega⟩
    have nd' := io_nodup S' ioIx_nodup hio
    have hout := out_ok S' rfl (ks := ks) (vs := vs) (k := 0) (Ms := Ms) lv (fun i e => h3 (0 + i) (ioIx_mem.mpr ⟨Nat.zero_le _, by simpa using e⟩)) (fun i w e => by show (vs[0 + i]?).getD .non = w; rw [Nat.zero_add, e]; rfl) st.ms ho
    have pieces : ∀ G ∈ (ioIx 0 ks).map (fF Fs), ∃ i ∈ ioIx 0 ks, Fs[i]? = some G ∧ OwnAt P H' Fs i 3 G := fun G hG => by
      obtain ⟨i, hi, rfl⟩ := List.mem_map.mp hG
      have ef := (S'.fsome (h3 i hi)).1
      exact ⟨i, hi, ef, S'.own i 3 _ (h3 i hi) ef⟩
    refine ⟨F, (ioIx 0 ks).map (fF Fs), ⟨fun b o e hb => S'.frm b o e fun hM => ?_, fun b o e => ?_, rp, hout, nd', fun G hG b hb => ?_, fun b hb => ⟨fun G hG hbG => ?_, ?_⟩, fun z => ?_⟩⟩
    · obtain ⟨G, hG, hbG⟩ := List.mem_flatten.mp hM
      exact hb G hG hbG
    · by_cases hM : b ∈ Ms.flatten
      · exact S'.mm b hM
      · exact ⟨o, S'.frm b o e hM⟩
    · obtain ⟨i, _, _, o⟩ := pieces G hG
      exact (o.pt b (by rw [reg2 (by omega)]; exact hb)).2.1
    · obtain ⟨i, hi, ef, o⟩ := pieces G hG
      rcases tk.pt b hb with ⟨j, L', hj, ej, hL'⟩ | ⟨_, h'⟩
      · have : j ≠ i := fun z => hal j hj (by rw [z]; exact h3 i hi)
        exact (o.pt b (by rw [reg2 (by omega)]; exact hbG)).2.2 j L' this ej hL'
      · exact h' i G ef hbG
    · rcases tk.pt b hb with ⟨j, L', hj, ej, hL'⟩ | ⟨h0, _⟩
      · have hjl : j < fl.length := by
          have := (List.getElem?_eq_some_iff.mp ej).1
          rw [S'.l3, ← S'.l2] at this; exact this
        have ef := List.getElem?_eq_getElem hjl
        exact (S'.own j _ L' ef ej).bas (fun z => hal j hj (by rw [ef, z])) b hL'
      · exact .inl h0
    · have e := hfr z
      subst e
      refine ⟨(tk.own rfl).1, fun b hb => ?_⟩
      rcases tk.pt b hb with ⟨j, _, hj, _⟩ | ⟨h0, _⟩
      · cases hj
      · exact ⟨h0, (tk.own rfl).2 b hb⟩
  unfold fmOf at hf
  split at hf
  · rename_i d e hsv
    simp only [Option.map_eq_some_iff, Prod.mk.injEq] at hf
    obtain ⟨l, ho, rfl, rfl⟩ := hf
    refine h P rfl rfl rfl (L2.start N vs) (env0 ds n) H _ _ e S hsv _ ?_
    intro v H' ret
    obtain ⟨F', Ms', post⟩ := done ret ho
    exact hD2 d e hsv v H' (hr v H' F' Ms' post)
  · rename_i e hsv
    simp only [Option.map_eq_some_iff, Prod.mk.injEq] at hf
    obtain ⟨l, ho, rfl, rfl⟩ := hf
    refine h P rfl rfl rfl (L2.start N vs) (env0 ds n) H _ _ e S hsv _ ?_
    intro σ' H' Fs' S' _
    obtain ⟨a, b, c⟩ := retOk_of hend
    obtain ⟨F', Ms', post⟩ := done (v := .non) (d := .non) ⟨_, σ', Fs', .own, [], S', .non, TOK.nilOwn, a, b, c⟩ ho
    exact hD1 σ' H' (fun i hi => S'.vi i (a i hi)) (hr .non H' F' Ms' post)
  · rename_i x e hsv
    cases hf
    refine h P rfl rfl rfl (L2.start N vs) (env0 ds n) H _ _ e S hsv _ ?_
    intro c dr H' hk er
    exact hr c dr H' (fun b o e hb => hk b o e fun hM => by
      obtain ⟨G, hG, hbG⟩ := List.mem_flatten.mp hM
      exact hb G hG hbG) er
  · cases hf
/-- THE RULE for a body -/
theorem body_ok {ca : String → Addr} {ks : List Bool} {fr : Bool} {sv : Sv} {N : List Str} {vs : List V} {H : Hp} {Q : VK} {E : XK} {ts : TS} {L fl' : List Nat} {n : Nat} (hn : N.length = n) (hks : ks.length ≤ n) (h : ∀ P : Cz, P.ca = ca → P.E = E → P.K = K → RS P ⟨ioIx 0 ks, fr⟩ [] (flags0 ks n) ts sv L fl') (hend : retOk ⟨ioIx 0 ks, fr⟩ fl' .own = true) (hs : spV K ca ks fr (fmOf ks n sv) vs H Q E) :
    ts { nx := fun _ H' => Q .non H', rt := Q } (L2.start N vs) H := by
  obtain ⟨ds, Fv, Ms, r, ios, hA, hN, hL, hf, hr⟩ := hs
  exact body_okG hn hks h hend hA hN hL hr hf (fun _ _ _ q => q) fun _ _ _ _ _ q => q
end VL
/-! V10: the operators and built-ins on data. -/
namespace VL
open PySem PySem.Spec L2
variable {K : PySem.W.Frag}
/-- // by any divisor but 0, below 2 ^ 9000 in size -/
def CDivA (_ j : Int) : Prop := j ≠ 0 ∧ j.natAbs.log2 < 9000
theorem op_fdivA {X : Cx} : OpR X (binaryOp .FloorDiv) (rI CDivA fun i j => .int (i.fdiv j)) := opI fun i j _ _ _ _ _ hc q => by
  exact PyProof.Rows.floordiv_int hc.1 q (.inl (PyProof.noPylong_of_log2 hc.2))
section
variable {P : Cz} {fl fl1 fl2 fl3 lv : List Nat} {σ : L2.St} {env env' : Env} {H H' : Hp} {Fs : List (List Addr)}
theorem fin0 {v : V} {d : D} {Q : VK} (r : Rp K H v d []) (q : ∀ (v : V) (H' : Hp) (F : List Addr), (∀ b o, H b = some o → H' b = some o) → Rp K H' v d F → F.Nodup → (∀ b ∈ F, H b = none ∧ Live H' b) → Q v H') : Q v H :=
  q v H [] (fun _ _ e => e) r List.nodup_nil (fun _ hb => nomatch hb)
theorem fin1 {p : Addr} {xs : List V} {ds : List D} {Q : VK} (hp : H p = none) (hz : xs.length ≤ sizeLine) (r : RpL K (upd H p (.lst xs)) xs ds []) (q : ∀ (v : V) (H' : Hp) (F : List Addr), (∀ b o, H b = some o → H' b = some o) → Rp K H' v (.lst ds) F → F.Nodup → (∀ b ∈ F, H b = none ∧ Live H' b) → Q v H') : Q (.ref p) (upd H p (.lst xs)) :=
  q _ _ [p] (upd_keep hp) (.lst upd_same hz r) (by simp) fun b hb => by
    have : b = p := by simpa using hb
    subst this
    exact ⟨hp, live_lst⟩
theorem iteS {α : Type} {c : Bool} {a d : α} (e : (if c then some a else none) = some d) : c = true ∧ a = d := by
  cases c with
  | true => exact ⟨rfl, Option.some.inj e⟩
  | false => cases e
/-! ### ints -/
def dI2 (f : Int → Int → D) : D → D → Option D
  | .int i, .int j => some (f i j)
  | _, _ => none
theorem os_i2 {g : Int → Int → V} {f : Int → Int → D} (h : ∀ i j H, Rp K H (g i j) (f i j) []) : OpS2 K (rI0 g) (dI2 f) := by
  intro H x y dx dy d Fx Fy Q rx ry e q
  cases rx <;> cases ry <;> first | (cases e; done) | skip
  rename_i i j
  cases e
  exact ⟨i, j, rfl, rfl, fin0 (h i j H) q⟩
def dI2c (c : Int → Int → Bool) (f : Int → Int → D) : D → D → Option D
  | .int i, .int j => if c i j then some (f i j) else none
  | _, _ => none
theorem os_i2c {C : Int → Int → Prop} {c : Int → Int → Bool} {g : Int → Int → V} {f : Int → Int → D} (hc : ∀ i j, c i j = true → C i j) (h : ∀ i j H, Rp K H (g i j) (f i j) []) : OpS2 K (rI C g) (dI2c c f) := by
  intro H x y dx dy d Fx Fy Q rx ry e q
  cases rx <;> cases ry <;> first | (cases e; done) | skip
  rename_i i j
  obtain ⟨hcc, rfl⟩ := iteS (c := c i j) (a := f i j) e
  exact ⟨i, j, rfl, rfl, hc i j hcc, fin0 (h i j H) q⟩
abbrev dAdd := dI2 fun i j => .int (i + j)
abbrev dSub := dI2 fun i j => .int (i - j)
def cMul (i j : Int) : Bool := decide (i.natAbs.log2 + j.natAbs.log2 < 1000000)
abbrev dMul := dI2c cMul fun i j => .int (i * j)
def cDiv (_ j : Int) : Bool := decide (j ≠ 0) && decide (j.natAbs.log2 < 9000)
abbrev dDiv := dI2c cDiv fun i j => .int (i.fdiv j)
def cMod (_ j : Int) : Bool := decide (j ≠ 0)
abbrev dMod := dI2c cMod fun i j => .int (i.fmod j)
def cPow (i j : Int) : Bool := decide (0 ≤ j) && decide (j ≤ 1000000) && decide (i.natAbs < 2 ^ 64)
abbrev dPow := dI2c cPow fun i j => .int (i ^ j.toNat)
abbrev dLt := dI2 fun i j => .bl (decide (i < j))
abbrev dLe := dI2 fun i j => .bl (decide (i ≤ j))
abbrev dGt := dI2 fun i j => .bl (decide (j < i))
abbrev dGe := dI2 fun i j => .bl (decide (j ≤ i))
theorem os_add : OpS2 K (rI0 fun i j => .int (i + j)) dAdd := os_i2 fun i j H => .int _
theorem os_sub : OpS2 K (rI0 fun i j => .int (i - j)) dSub := os_i2 fun i j H => .int _
theorem os_lt : OpS2 K (rI0 fun i j => .bl (decide (i < j))) dLt := os_i2 fun i j H => .bl _
theorem os_le : OpS2 K (rI0 fun i j => .bl (decide (i ≤ j))) dLe := os_i2 fun i j H => .bl _
theorem os_gt : OpS2 K (rI0 fun i j => .bl (decide (j < i))) dGt := os_i2 fun i j H => .bl _
theorem os_ge : OpS2 K (rI0 fun i j => .bl (decide (j ≤ i))) dGe := os_i2 fun i j H => .bl _
theorem os_mul : OpS2 K (rI CMulW fun i j => .int (i * j)) dMul := os_i2c (fun i j h => by simpa [cMul, CMulW] using h) fun i j H => .int _
theorem os_div : OpS2 K (rI CDivA fun i j => .int (i.fdiv j)) dDiv := os_i2c (fun i j h => by simpa [cDiv, CDivA] using h) fun i j H => .int _
theorem os_mod : OpS2 K (rI (fun _ j => j ≠ 0) fun i j => .int (i.fmod j)) dMod := os_i2c (fun i j h => by simpa [cMod] using h) fun i j H => .int _
theorem os_pow : OpS2 K (rI CPow fun i j => .int (i ^ j.toNat)) dPow := os_i2c (fun i j h => by
  simp only [cPow, Bool.and_eq_true, decide_eq_true_eq] at h
  exact ⟨h.1.1, h.1.2, h.2⟩) fun i j H => .int _
def dI1 (f : Int → D) : D → Option D
  | .int i => some (f i)
  | _ => none
theorem os_neg : OpS1 K (rU fun i => .int (-i)) (dI1 fun i => .int (-i)) := by
  intro H x dx d Fx Q rx e q
  cases rx <;> first | (cases e; done) | skip
  rename_i i
  cases e
  exact ⟨i, rfl, fin0 (.int _) q⟩
/-! ### == != -/
mutual
def D.py : D → PyData
  | .non => .none
  | .bl b => .bool b
  | .int i => .int i
  | .str s => .str s
  | .lst l => .list (D.pyL l)
  | .tup l => .tuple (D.pyL l)
  | .scr _ => .dict []
  | .obj _ _ => .dict []
  | .exc _ _ => .dict []
def D.pyL : List D → List PyData
  | [] => []
  | d :: r => D.py d :: D.pyL r
end
mutual
theorem Rp.dp {K : PySem.W.Frag} {H : Hp} : ∀ {v : V} {d : D} {F : List Addr}, Rp K H v d F → d.py.canLay0 = true → Dp K H v d.py
  | _, _, _, .non, _ => .non
  | _, _, _, .bl b, _ => .bl b
  | _, _, _, .int i, _ => .int i
  | _, _, _, .str x, _ => .str x
  | _, _, _, .lst r _ l, h => by
    simp only [D.py, PyData.canLay0] at h
    exact .lst (SqL.of r) (RpL.dp l h)
  | _, _, _, .tup r _ l, h => by
    simp only [D.py, PyData.canLay0] at h
    exact .tup (SqT.of r) (RpL.dp l h)
  | _, _, _, .scr _ _ _ _, h => by simp [D.py, PyData.canLay0] at h
  | _, _, _, .obj _ _ _, h => by simp [D.py, PyData.canLay0] at h
  | _, _, _, .exc _ _ _, h => by simp [D.py, PyData.canLay0] at h
theorem RpL.dp {K : PySem.W.Frag} {H : Hp} : ∀ {v : List V} {d : List D} {F : List Addr}, RpL K H v d F → PyData.canLayAll0 (D.pyL d) = true → DpAll K H v (D.pyL d)
  | _, _, _, .nil, _ => .nil
  | _, _, _, .cons h t, q => by
    simp only [D.pyL, PyData.canLayAll0, Bool.and_eq_true] at q
    exact .cons (Rp.dp h q.1) (RpL.dp t q.2)
end
def dEqB (x y : D) : Option Bool := if SeqAt.shaped x.py && SeqAt.shaped y.py then some (PyData.eqv x.py y.py) else none
def dEq (x y : D) : Option D := (dEqB x y).map .bl
def dNe (x y : D) : Option D := (dEqB x y).map fun b => .bl (!b)
theorem os_eq : OpS2 K (rEqD K) dEq := by
  intro H x y dx dy d Fx Fy Q rx ry e q
  unfold dEq dEqB at e
  split at e
  · rename_i h
    simp only [Bool.and_eq_true] at h
    cases e
    exact ⟨_, _, rx.dp (SeqAt.canLay_of_shaped h.1), ry.dp (SeqAt.canLay_of_shaped h.2), h.1, h.2, fin0 (.bl _) q⟩
  · cases e
theorem os_ne : OpS2 K (rNeD K) dNe := by
  intro H x y dx dy d Fx Fy Q rx ry e q
  unfold dNe dEqB at e
  split at e
  · rename_i h
    simp only [Bool.and_eq_true] at h
    cases e
    exact ⟨_, _, rx.dp (SeqAt.canLay_of_shaped h.1), ry.dp (SeqAt.canLay_of_shaped h.2), h.1, h.2, fin0 (.bl _) q⟩
  · cases e
/-! ### in, is None -/
def D.sv : D → Option V
  | .non => some .non
  | .bl b => some (.bl b)
  | .int i => some (.int i)
  | .str s => some (.str s)
  | _ => none
def D.svs : List D → Option (List V)
  | [] => some []
  | d :: r => match d.sv, D.svs r with
    | some v, some vs => some (v :: vs)
    | _, _ => none
theorem Rp.sv {v u : V} {d : D} {F : List Addr} (r : Rp K H v d F) (h : d.sv = some u) : v = u ∧ flatV v = true ∧ F = [] := by
  cases r <;> cases h <;> exact ⟨rfl, rfl, rfl⟩
theorem RpL.svs : ∀ {vs us : List V} {ds : List D} {F : List Addr}, RpL K H vs ds F → D.svs ds = some us → vs = us ∧ vs.all flatV = true ∧ F = []
  | _, _, _, _, .nil, h => by cases h; exact ⟨rfl, rfl, rfl⟩
  | _, _, _, _, .cons r t, h => by
    unfold D.svs at h
    split at h
    · rename_i v vs e1 e2
      cases h
      obtain ⟨a, b, c⟩ := r.sv e1
      obtain ⟨a2, b2, c2⟩ := t.svs e2
      subst a a2 c c2
      exact ⟨rfl, by simp only [List.all_cons, b, b2, Bool.and_self], rfl⟩
    · cases h
def D.items : D → Option (List D)
  | .lst l => some l
  | .tup l => some l
  | _ => none
def dInB (x y : D) : Option Bool := match x.sv, y.items.bind D.svs with
  | some v, some vs => some (inV v vs)
  | _, _ => none
def dIn (x y : D) : Option D := (dInB x y).map .bl
def dNin (x y : D) : Option D := (dInB x y).map fun b => .bl (!b)
theorem in_ok {x y : V} {dx dy : D} {Fx Fy : List Addr} {b : Bool} (rx : Rp K H x dx Fx) (ry : Rp K H y dy Fy) (e : dInB dx dy = some b) : ∃ p xs, y = .ref p ∧ (SqL K H p xs ∨ SqT K H p xs) ∧ flatV x = true ∧ xs.all flatV = true ∧ inV x xs = b := by
  unfold dInB at e
  split at e
  · rename_i v vs e1 e2
    cases e
    obtain ⟨a1, a2, _⟩ := rx.sv e1
    subst a1
    cases ry <;> first | (cases e2; done) | skip
    · rename_i a xs ds F r z l
      obtain ⟨b1, b2, _⟩ := l.svs e2
      subst b1
      exact ⟨a, _, rfl, .inl (SqL.of r), a2, b2, rfl⟩
    · rename_i a xs ds F r z l
      obtain ⟨b1, b2, _⟩ := l.svs e2
      subst b1
      exact ⟨a, _, rfl, .inr (SqT.of r), a2, b2, rfl⟩
  · cases e
theorem os_in : OpS2 K (rIn K false) dIn := by
  intro H x y dx dy d Fx Fy Q rx ry e q
  unfold dIn at e
  simp only [Option.map_eq_some_iff] at e
  obtain ⟨b, e, rfl⟩ := e
  obtain ⟨p, xs, e1, e2, e3, e4, e5⟩ := in_ok (K := K) rx ry e
  exact ⟨p, xs, e1, e2, e3, e4, by rw [e5]; exact fin0 (.bl _) q⟩
theorem os_nin : OpS2 K (rIn K true) dNin := by
  intro H x y dx dy d Fx Fy Q rx ry e q
  unfold dNin at e
  simp only [Option.map_eq_some_iff] at e
  obtain ⟨b, e, rfl⟩ := e
  obtain ⟨p, xs, e1, e2, e3, e4, e5⟩ := in_ok (K := K) rx ry e
  exact ⟨p, xs, e1, e2, e3, e4, by rw [e5]; exact fin0 (.bl _) q⟩
def D.isN : D → Bool
  | .non => true
  | _ => false
theorem Rp.isN {v : V} {d : D} {F : List Addr} (r : Rp K H v d F) : decide (v = .non) = d.isN := by cases r <;> rfl
theorem os_isN : OpS1 K (fun x H Q => V.non = .non ∧ Q (.bl (decide (x = .non))) H) (fun d => some (.bl d.isN)) := by
  intro H x dx d Fx Q rx e q
  cases e
  rw [rx.isN]
  exact ⟨rfl, fin0 (.bl _) q⟩
theorem os_notN : OpS1 K (fun x H Q => V.non = .non ∧ Q (.bl (!decide (x = .non))) H) (fun d => some (.bl (!d.isN))) := by
  intro H x dx d Fx Q rx e q
  cases e
  rw [rx.isN]
  exact ⟨rfl, fin0 (.bl _) q⟩
def eIsN (ea : Ev) : Ev := eOp1 (fun d => some (.bl d.isN)) ea
def eNotN (ea : Ev) : Ev := eOp1 (fun d => some (.bl (!d.isN))) ea
theorem re_isN {ta : TE} {ea : Ev} {al : AL} (ha : RE P lv fl ta ea al fl1) : RE P lv fl (tOp (fun x y H Q => y = .non ∧ Q (.bl (decide (x = .non))) H) ta (tC .non)) (eIsN ea) .own fl1 := re_op1 os_isN ha
theorem re_notN {ta : TE} {ea : Ev} {al : AL} (ha : RE P lv fl ta ea al fl1) : RE P lv fl (tOp (fun x y H Q => y = .non ∧ Q (.bl (!decide (x = .non))) H) ta (tC .non)) (eNotN ea) .own fl1 := re_op1 os_notN ha
/-! ### a chain -/
def eChain (f g : D → D → Option D) (ea eb ec : Ev) : Ev := fun env => bindM (ea env) fun x e1 => bindM (eb e1) fun y e2 => bindM (bO (f x y) e2) fun c e3 => bindM (bB c e3) fun k e3 => cIf k (bindM (ec e3) fun z e4 => bindM (bO (g y z) e4) bOBl) (some (.ok (.bl false), e3))
/-! ### built-ins of one and two arguments -/
theorem re_b1 {r : List V → Hp → VK → Prop} {f : D → Option D} {ta : TE} {ea : Ev} {al : AL} (hr : OpS1 P.K (fun x => r [x]) f) (ha : RE P lv fl ta ea al fl1) : RE P lv fl (tCB r (tCons ta tNil)) (eOp1 f ea) .own fl1 := re_op1 (r := fun x => r [x]) hr ha
theorem re_b2 {r : List V → Hp → VK → Prop} {f : D → D → Option D} {ta tb : TE} {ea eb : Ev} {al al2 : AL} (hr : OpS2 P.K (fun x y => r [x, y]) f) (ha : RE P lv fl ta ea al fl1) (hb : RE P (al.slots ++ lv) fl1 tb eb al2 fl2) : RE P lv fl (tCB r (tCons ta (tCons tb tNil))) (eOp2 f ea eb) .own fl2 := re_op2 (r := fun x y => r [x, y]) hr ha hb
def dLen : D → Option D
  | .lst l => some (.int l.length)
  | .tup l => some (.int l.length)
  | .scr l => some (.int l.length)
  | _ => none
theorem os_len : OpS1 K (fun x H Q => ∃ p ys, [x] = [V.ref p] ∧ (SqL K H p ys ∨ SqT K H p ys) ∧ Q (.int ys.length) H) dLen := by
  intro H x dx d Fx Q rx e q
  cases rx <;> first | (cases e; done) | skip
  · rename_i a xs ds F r z l
    cases e
    exact ⟨a, _, rfl, .inl (SqL.of r), by rw [l.length]; exact fin0 (.int _) q⟩
  · rename_i a ns r z m k
    cases e
    exact ⟨a, _, rfl, .inl r, by rw [List.length_map]; exact fin0 (.int _) q⟩
  · rename_i a xs ds F r z l
    cases e
    exact ⟨a, _, rfl, .inr (SqT.of r), by rw [l.length]; exact fin0 (.int _) q⟩
def dInt : D → Option D
  | .int i => some (.int i)
  | .bl k => some (.int (if k then 1 else 0))
  | _ => none
theorem os_int : OpS1 K (fun x H Q => (∃ i, [x] = [V.int i] ∧ Q (.int i) H) ∨ ∃ k, [x] = [V.bl k] ∧ Q (.int (if k then 1 else 0)) H) dInt := by
  intro H x dx d Fx Q rx e q
  cases rx <;> first | (cases e; done) | skip
  · cases e; exact .inr ⟨_, rfl, fin0 (.int _) q⟩
  · cases e; exact .inl ⟨_, rfl, fin0 (.int _) q⟩
def dAbs : D → Option D := dI1 fun i => .int (if i < 0 then -i else i)
theorem os_abs : OpS1 K (fun x H Q => ∃ i, [x] = [V.int i] ∧ Q (.int (if i < 0 then -i else i)) H) dAbs := by
  intro H x dx d Fx Q rx e q
  cases rx <;> first | (cases e; done) | skip
  cases e
  exact ⟨_, rfl, fin0 (.int _) q⟩
def dMax2 := dI2 fun i j => .int (if j > i then j else i)
theorem os_max2 : OpS2 K (fun x y H Q => ∃ i j, [x, y] = [V.int i, V.int j] ∧ Q (.int (if j > i then j else i)) H) dMax2 := by
  intro H x y dx dy d Fx Fy Q rx ry e q
  cases rx <;> cases ry <;> first | (cases e; done) | skip
  cases e
  exact ⟨_, _, rfl, fin0 (.int _) q⟩
def dMin2 := dI2 fun i j => .int (if j < i then j else i)
theorem os_min2 : OpS2 K (fun x y H Q => ∃ i j, [x, y] = [V.int i, V.int j] ∧ Q (.int (if j < i then j else i)) H) dMin2 := by
  intro H x y dx dy d Fx Fy Q rx ry e q
  cases rx <;> cases ry <;> first | (cases e; done) | skip
  cases e
  exact ⟨_, _, rfl, fin0 (.int _) q⟩
/-! ### lists of ints, of bools -/
def D.int? : D → Option Int
  | .int i => some i
  | _ => none
def D.ints : List D → Option (List Int)
  | [] => some []
  | d :: r => match d.int?, D.ints r with
    | some v, some vs => some (v :: vs)
    | _, _ => none
theorem D.ints_inv : ∀ {ds : List D} {ns : List Int}, D.ints ds = some ns → ds = ns.map D.int
  | [], _, h => by cases h; rfl
  | d :: r, ns, h => by
    unfold D.ints at h
    split at h
    · rename_i v vs e1 e2
      cases h
      cases d <;> cases e1
      rw [D.ints_inv e2]
      rfl
    · cases h
@[simp] theorem D.ints_map (ns : List Int) : D.ints (ns.map D.int) = some ns := by
  induction ns with
  | nil => rfl
  | cons n ns ih => simp [D.ints, D.int?, ih]
def D.intL : D → Option (List Int)
  | .lst l => D.ints l
  | .scr l => some l
  | _ => none
theorem Rp.intL {v : V} {d : D} {F : List Addr} {ns : List Int} (r : Rp K H v d F) (h : d.intL = some ns) : ∃ a, v = .ref a ∧ SqL K H a (ns.map V.int) := by
  cases r <;> first | (cases h; done) | skip
  · rename_i a xs ds F r z l
    have e := D.ints_inv h
    subst e
    obtain ⟨e1, _⟩ := l.ints_inv
    subst e1
    exact ⟨a, rfl, SqL.of r⟩
  · rename_i a ns r z m k
    cases h
    exact ⟨a, rfl, r⟩
def dSum (d : D) : Option D := d.intL.map fun ns => .int ns.sum
theorem os_sum : OpS1 K (fun x => rSum K [x]) dSum := by
  intro H x dx d Fx Q rx e q
  unfold dSum at e
  simp only [Option.map_eq_some_iff] at e
  obtain ⟨ns, e, rfl⟩ := e
  obtain ⟨a, rfl, hs⟩ := rx.intL (K := K) e
  exact ⟨a, ns, rfl, hs, fin0 (.int _) q⟩
def maxI : List Int → Option Int
  | [] => none
  | x :: r => some (r.foldl max x)
def minI : List Int → Option Int
  | [] => none
  | x :: r => some (r.foldl min x)
theorem foldl_max : ∀ (r : List Int) (x : Int), (r.foldl max x ∈ x :: r) ∧ ∀ y ∈ x :: r, y ≤ r.foldl max x
  | [], x => by simp
  | z :: r, x => by
    obtain ⟨h1, h2⟩ := foldl_max r (max x z)
    rw [List.foldl_cons]
    refine ⟨?_, fun y hy => ?_⟩
    · rcases List.mem_cons.mp h1 with e | e
      · rw [e]
        by_cases h : x ≤ z
        · rw [show max x z = z by omega]; simp
        · rw [show max x z = x by omega]; simp
      · exact List.mem_cons_of_mem _ (List.mem_cons_of_mem _ e)
    · have hm := h2 (max x z) List.mem_cons_self
      rcases List.mem_cons.mp hy with rfl | hy
      · omega
      · rcases List.mem_cons.mp hy with rfl | hy
        · omega
        · exact h2 y (List.mem_cons_of_mem _ hy)
theorem foldl_min : ∀ (r : List Int) (x : Int), (r.foldl min x ∈ x :: r) ∧ ∀ y ∈ x :: r, r.foldl min x ≤ y
  | [], x => by simp
  | z :: r, x => by
    obtain ⟨h1, h2⟩ := foldl_min r (min x z)
    rw [List.foldl_cons]
    refine ⟨?_, fun y hy => ?_⟩
    · rcases List.mem_cons.mp h1 with e | e
      · rw [e]
        by_cases h : x ≤ z
        · rw [show min x z = x by omega]; simp
        · rw [show min x z = z by omega]; simp
      · exact List.mem_cons_of_mem _ (List.mem_cons_of_mem _ e)
    · have hm := h2 (min x z) List.mem_cons_self
      rcases List.mem_cons.mp hy with rfl | hy
      · omega
      · rcases List.mem_cons.mp hy with rfl | hy
        · omega
        · exact h2 y (List.mem_cons_of_mem _ hy)
def dMaxL (d : D) : Option D := (d.intL.bind maxI).map .int
def dMinL (d : D) : Option D := (d.intL.bind minI).map .int
theorem os_maxL : OpS1 K (fun x => rMax K [x]) dMaxL := by
  intro H x dx d Fx Q rx e q
  unfold dMaxL at e
  simp only [Option.map_eq_some_iff, Option.bind_eq_some_iff] at e
  obtain ⟨m, ⟨ns, e, em⟩, rfl⟩ := e
  obtain ⟨a, rfl, hs⟩ := rx.intL (K := K) e
  cases ns with
  | nil => cases em
  | cons y r =>
    cases em
    obtain ⟨h1, h2⟩ := foldl_max r y
    refine ⟨a, _, rfl, hs, by simp, fun m hm hl => ?_⟩
    have : m = r.foldl max y := Int.le_antisymm (h2 m hm) (hl _ h1)
    rw [this]
    exact fin0 (.int _) q
theorem os_minL : OpS1 K (fun x => rMin K [x]) dMinL := by
  intro H x dx d Fx Q rx e q
  unfold dMinL at e
  simp only [Option.map_eq_some_iff, Option.bind_eq_some_iff] at e
  obtain ⟨m, ⟨ns, e, em⟩, rfl⟩ := e
  obtain ⟨a, rfl, hs⟩ := rx.intL (K := K) e
  cases ns with
  | nil => cases em
  | cons y r =>
    cases em
    obtain ⟨h1, h2⟩ := foldl_min r y
    refine ⟨a, _, rfl, hs, by simp, fun m hm hl => ?_⟩
    have : m = r.foldl min y := Int.le_antisymm (hl _ h1) (h2 m hm)
    rw [this]
    exact fin0 (.int _) q
def D.bl? : D → Option Bool
  | .bl i => some i
  | _ => none
def D.bls : List D → Option (List Bool)
  | [] => some []
  | d :: r => match d.bl?, D.bls r with
    | some v, some vs => some (v :: vs)
    | _, _ => none
@[simp] theorem D.bls_map (ns : List Bool) : D.bls (ns.map D.bl) = some ns := by
  induction ns with
  | nil => rfl
  | cons n ns ih => simp [D.bls, D.bl?, ih]
theorem RpL.bls : ∀ {vs : List V} {ds : List D} {bs : List Bool} {F : List Addr}, RpL K H vs ds F → D.bls ds = some bs → vs = bs.map V.bl
  | _, _, _, _, .nil, h => by cases h; rfl
  | _, _, _, _, .cons r t, h => by
    unfold D.bls at h
    split at h
    · rename_i v vs e1 e2
      cases h
      cases r <;> cases e1
      rw [t.bls e2]
      rfl
    · cases h
def D.blL : D → Option (List Bool)
  | .lst l => D.bls l
  | _ => none
def dAll (d : D) : Option D := d.blL.map fun bs => .bl (bs.all id)
def dAny (d : D) : Option D := d.blL.map fun bs => .bl (bs.any id)
theorem os_all : OpS1 K (fun x => rAll K [x]) dAll := by
  intro H x dx d Fx Q rx e q
  unfold dAll at e
  simp only [Option.map_eq_some_iff] at e
  obtain ⟨bs, e, rfl⟩ := e
  cases rx <;> first | (cases e; done) | skip
  rename_i a xs ds F r z l
  have e1 := l.bls e
  subst e1
  exact ⟨a, bs, rfl, SqL.of r, fin0 (.bl _) q⟩
theorem os_any : OpS1 K (fun x => rAny K [x]) dAny := by
  intro H x dx d Fx Q rx e q
  unfold dAny at e
  simp only [Option.map_eq_some_iff] at e
  obtain ⟨bs, e, rfl⟩ := e
  cases rx <;> first | (cases e; done) | skip
  rename_i a xs ds F r z l
  have e1 := l.bls e
  subst e1
  exact ⟨a, bs, rfl, SqL.of r, fin0 (.bl _) q⟩
/-! ### isinstance of a built-in class -/
def D.tn : D → Option String
  | .non => some "NoneType"
  | .bl _ => some "bool"
  | .int _ => some "int"
  | .str _ => some "str"
  | .lst _ => some "list"
  | .scr _ => some "list"
  | .tup _ => some "tuple"
  | .obj _ _ => none
  | .exc _ _ => none
def isiB (a b : String) : Bool := a == b || (a == "bool" && b == "int")
theorem kit_all : (["NoneType", "bool", "int", "str", "list", "tuple"].all fun a => ["bool", "int", "str", "list", "tuple"].all fun b => kitB a b == some (isiB a b)) = true := by decide +kernel
def tnOk (T : String) : Bool := ["bool", "int", "str", "list", "tuple"].contains T
def dIsi (T : String) (d : D) : Option D := match d.tn with
  | some a => if tnOk T then some (.bl (isiB a T)) else none
  | none => none
theorem os_isi {T : String} : OpS1 K (fun x => rIsi K [x, .ty T]) (dIsi T) := by
  intro H x dx d Fx Q rx e q
  unfold dIsi at e
  split at e
  · rename_i a ea
    split at e
    · rename_i hT
      cases e
      have hk : ∀ a, a ∈ ["NoneType", "bool", "int", "str", "list", "tuple"] → kitB a T = some (isiB a T) := fun a ha => by
        have h1 := List.all_eq_true.mp kit_all a ha
        have h2 := List.all_eq_true.mp h1 T (by simpa [tnOk] using hT)
        exact beq_iff_eq.mp h2
      have go : ∀ t, TyX K H x (.type t) → some t = some a → t ∈ ["NoneType", "bool", "int", "str", "list", "tuple"] → rIsi K [x, .ty T] H Q := fun t ty et ht => by
        have e : t = a := Option.some.inj et
        rw [e] at ty ht
        exact ⟨x, .ty T, .type a, .type T, isiB a T, rfl, .ty T, ty, kit_ty (hk a ht), fin0 (.bl _) q⟩
      cases rx with
      | non => exact go _ (.base .non) ea (by decide)
      | bl b => exact go _ (.base (.bl b)) ea (by decide)
      | int i => exact go _ (.base (.int i)) ea (by decide)
      | str s => exact go _ (.base (.str s)) ea (by decide)
      | lst r z l => exact go _ (.base (.lst r)) ea (by decide)
      | scr r z m k =>
        rcases r with (r | ⟨o, r⟩) | ⟨o, its, n, hk, hc, _⟩
        · exact go _ (.base (.lst r)) ea (by decide)
        · exact go _ (.base (.frz r)) ea (by decide)
        · exact go _ (.kList hk hc) ea (by decide)
      | tup r z l => exact go _ (.base (.tup r)) ea (by decide)
      | obj r z l => cases ea
      | exc r g x => cases ea
    · cases e
  · cases e
theorem re_isi {T : String} {ta : TE} {ea : Ev} {al : AL} (ha : RE P lv fl ta ea al fl1) : RE P lv fl (tCB (rIsi P.K) (tCons ta (tCons (tC (.ty T)) tNil))) (eOp1 (dIsi T) ea) .own fl1 := re_op1 (r := fun x => rIsi P.K [x, .ty T]) os_isi ha
def dBits : D → Option D := dI1 fun i => .int (Builtin.Int.intBits i : Nat)
theorem re_bits {ta : TE} {ea : Ev} {al : AL} (ha : RE P lv fl ta ea al fl1) : RE P lv fl (tBits ta) (eOp1 dBits ea) .own fl1 := re_op1 (r := fun x H1 Q => ∃ i, x = .int i ∧ Q (.int (Builtin.Int.intBits i : Nat)) H1) (by
  intro H x dx d Fx Q rx e q
  cases rx <;> first | (cases e; done) | skip
  cases e
  exact ⟨_, rfl, fin0 (.int _) q⟩) ha
/-! ### items -/
def dIx : D → D → Option D
  | .lst l, .int i => atI l i
  | .tup l, .int i => atI l i
  | _, _ => none
theorem RpL.atI {vs : List V} {ds : List D} {F : List Addr} {i : Int} {d : D} (r : RpL K H vs ds F) (e : L2.atI ds i = some d) : ∃ v G, L2.atI vs i = some v ∧ Rp K H v d G ∧ List.Sublist G F := by
  unfold L2.atI at e ⊢
  simp only [Option.bind_eq_some_iff] at e ⊢
  obtain ⟨j, ej, e⟩ := e
  obtain ⟨v, G, h1, h2, h3⟩ := r.get e
  exact ⟨v, G, ⟨j, by rw [r.length]; exact ej, h1⟩, h2, h3⟩
theorem oc_ix : OpC2 K (fun x y H Q => rIxL K x y H Q ∨ rIxT K x y H Q) dIx := by
  intro H x y dx dy d Fx Fy Q rx ry e q
  cases rx <;> cases ry <;> first | (cases e; done) | skip
  · rename_i a xs ds F r z l i
    obtain ⟨v, G, h1, h2, h3⟩ := l.atI e
    exact .inl ⟨a, xs, i, v, rfl, rfl, SqL.of r, h1, q v a F G h2 rfl h3⟩
  · rename_i a xs ds F r z l i
    obtain ⟨v, G, h1, h2, h3⟩ := l.atI e
    exact .inr ⟨a, xs, i, v, rfl, rfl, SqT.of r, h1, q v a F G h2 rfl h3⟩
/-! ### new lists of scalars out of such: +, * n, [a:b], list(..) -/
def D.flat (l : List D) : Bool := l.all D.scal
theorem RpL.flat : ∀ {vs : List V} {ds : List D} {F : List Addr}, RpL K H vs ds F → D.flat ds = true → F = [] ∧ ∀ H', RpL K H' vs ds []
  | _, _, _, .nil, _ => ⟨rfl, fun _ => .nil⟩
  | _, _, _, .cons r t, h => by
    simp only [D.flat, List.all_cons, Bool.and_eq_true] at h
    obtain ⟨e, k⟩ := t.flat h.2
    have e1 := r.scal h.1
    subst e e1
    refine ⟨rfl, fun H' => ?_⟩
    exact .cons (F := []) (r.keep fun b hb => nomatch hb) (k H')
def dCatS : D → D → Option D
  | .lst a, .lst b => if D.flat a && D.flat b && decide (a.length + b.length ≤ 16777216) then some (.lst (a ++ b)) else none
  | _, _ => none
theorem os_catS : OpS2 K rCat dCatS := by
  intro H x y dx dy d Fx Fy Q rx ry e q
  cases rx <;> cases ry <;> first | (cases e; done) | skip
  rename_i a xs ds F r z l b ys es G r2 z2 l2
  obtain ⟨h, rfl⟩ := iteS (c := D.flat ds && D.flat es && decide (ds.length + es.length ≤ 16777216)) e
  · simp only [Bool.and_eq_true, decide_eq_true_eq] at h
    have hz : xs.length + ys.length ≤ sizeLine := by rw [l.length, l2.length, sizeLine_eq]; exact h.2
    exact ⟨a, b, xs, ys, rfl, rfl, r, r2, hz, fun p hp => fin1 hp (by rw [List.length_append]; exact hz) (RpL.append (F := []) (G := []) ((l.flat h.1.1).2 _) ((l2.flat h.1.2).2 _)) q⟩
def dRepS : D → D → Option D
  | .lst a, .int k => if D.flat a && decide (k < 9223372036854775808) && decide (-9223372036854775808 ≤ k) && decide (a.length * k.toNat ≤ 16777216) then some (.lst (List.replicate k.toNat a).flatten) else none
  | _, _ => none
theorem RpL.rep {vs : List V} {ds : List D} (h : RpL K H vs ds []) : ∀ n : Nat, RpL K H (List.replicate n vs).flatten (List.replicate n ds).flatten []
  | 0 => .nil
  | n + 1 => by
    rw [List.replicate_succ, List.replicate_succ, List.flatten_cons, List.flatten_cons]
    exact RpL.append (F := []) (G := []) h (RpL.rep h n)
theorem os_repS : OpS2 K rRep dRepS := by
  intro H x y dx dy d Fx Fy Q rx ry e q
  cases rx <;> cases ry <;> first | (cases e; done) | skip
  rename_i a xs ds F r z l k
  obtain ⟨h, rfl⟩ := iteS (c := D.flat ds && decide (k < 9223372036854775808) && decide (-9223372036854775808 ≤ k) && decide (ds.length * k.toNat ≤ 16777216)) e
  · simp only [Bool.and_eq_true, decide_eq_true_eq] at h
    have hz : xs.length * k.toNat ≤ sizeLine := by rw [l.length, sizeLine_eq]; exact h.2
    refine ⟨a, k, xs, rfl, rfl, r, by omega, by omega, hz, fun p hp => fin1 hp ?_ (((l.flat h.1.1.1).2 _).rep _) q⟩
    have hl : ∀ n : Nat, (List.replicate n xs).flatten.length = xs.length * n := by
      intro n
      induction n with
      | zero => simp
      | succ n ih => rw [List.replicate_succ, List.flatten_cons, List.length_append, ih, Nat.mul_succ, Nat.add_comm]
    rw [hl]
    exact hz
def dListS : D → Option D
  | .lst a => if D.flat a then some (.lst a) else none
  | .tup a => if D.flat a then some (.lst a) else none
  | .scr ns => some (.lst (ns.map .int))
  | _ => none
theorem os_listS : OpS1 K (fun x H Q => ∃ p ys, [x] = [V.ref p] ∧ (SqL K H p ys ∨ SqT K H p ys) ∧ ∀ l, H l = none → Q (.ref l) (upd H l (.lst ys))) dListS := by
  intro H x dx d Fx Q rx e q
  cases rx <;> first | (cases e; done) | skip
  · rename_i a xs ds F r z l
    obtain ⟨h, rfl⟩ := iteS (c := D.flat ds) e
    exact ⟨a, xs, rfl, .inl (SqL.of r), fun p hp => fin1 hp z ((l.flat h).2 _) q⟩
  · rename_i a ns r z m k
    cases e
    exact ⟨a, _, rfl, .inl r, fun p hp => fin1 hp (by rw [List.length_map]; exact z) (RpL.ints ns) q⟩
  · rename_i a xs ds F r z l
    obtain ⟨h, rfl⟩ := iteS (c := D.flat ds) e
    exact ⟨a, xs, rfl, .inr (SqT.of r), fun p hp => fin1 hp z ((l.flat h).2 _) q⟩
/-- a slice's part -/
abbrev Ov := Env → Res (Option Int)
def RO (P : Cz) (lv fl : List Nat) (to : TO) (ov : Ov) (fl' : List Nat) : Prop :=
  SubF fl' fl ∧ ∀ (σ : L2.St) (env : Env) (H : Hp) (Fs : List (List Addr)) (r : Rs (Option Int)) (env' : Env), SI P fl σ env H Fs → ov env = some (r, env') → ∀ Q : Option Int → Hp → Prop,
    WE P r (fun o => ∀ (H' : Hp) (Fs' : List (List Addr)), SI P fl' σ env' H' Fs' → Step lv fl H Fs H' Fs' → Q o H') → to σ H Q
def ovNone : Ov := fun env => some (.ok none, env)
def ovSome (ev : Ev) : Ov := fun env => bindM (ev env) fun d e => match d with
  | .int i => some (.ok (some i), e)
  | _ => none
theorem ro_none : RO P lv fl tNoPart ovNone fl := by
  refine ⟨SubF.refl, fun σ env H Fs r env' S he Q hQ => ?_⟩
  cases he
  exact hQ H Fs S Step.refl
theorem ro_some {te : TE} {ev : Ev} {al : AL} (h : RE P lv fl te ev al fl1) : RO P lv fl (tPart te) (ovSome ev) fl1 := by
  refine ⟨h.1, fun σ env H Fs r env' S he Q hQ => ?_⟩
  refine h.bind S he hQ.ex _ fun d e1 q he v F H' Fs' S' st rp tk og => ?_
  split at he
  · cases he
    cases rp
    exact ⟨_, rfl, hQ H' Fs' S' st⟩
  · cases he
theorem RO.bind {β : Type} {f : Option Int → Env → Res β} {r : Rs β} {to : TO} {ov : Ov} (ha : RO P lv fl to ov fl1) (S : SI P fl σ env H Fs) (he : bindM (ov env) f = some (r, env')) (hx : ∀ x, r = .ex x → ExOk P x) (Q : Option Int → Hp → Prop)
    (hok : ∀ o e1, f o e1 = some (r, env') → ∀ (H' : Hp) (Fs' : List (List Addr)), SI P fl1 σ e1 H' Fs' → Step lv fl H Fs H' Fs' → Q o H') : to σ H Q := by
  cases q : ov env with
  | none => rw [q] at he; cases he
  | some p =>
    obtain ⟨r1, e1⟩ := p
    rw [q] at he
    cases r1 with
    | ex x =>
      cases he
      exact ha.2 σ env H Fs _ _ S q _ (hx x rfl)
    | ok d => exact ha.2 σ env H Fs _ _ S q _ (hok d e1 he)
def cutL {α : Type} (xs : List α) (lo hi : Option Int) : List α := (xs.drop (HT.sIx xs.length 0 lo)).take (HT.sIx xs.length xs.length hi - HT.sIx xs.length 0 lo)
theorem RpL.cut {vs : List V} {ds : List D} (h : RpL K H vs ds []) (lo hi : Option Int) : RpL K H (cutV vs lo hi) (cutL ds lo hi) [] := by
  have dr : ∀ (n : Nat) {vs : List V} {ds : List D}, RpL K H vs ds [] → RpL K H (vs.drop n) (ds.drop n) [] := by
    intro n
    induction n with
    | zero => intro vs ds h; exact h
    | succ n ih =>
      intro vs ds h
      generalize hF : ([] : List Addr) = F at h
      cases h with
      | nil => exact .nil
      | cons r t =>
        obtain ⟨e1, e2⟩ := List.append_eq_nil_iff.mp hF.symm
        subst e1 e2
        exact ih t
  have tk : ∀ (n : Nat) {vs : List V} {ds : List D}, RpL K H vs ds [] → RpL K H (vs.take n) (ds.take n) [] := by
    intro n
    induction n with
    | zero => intro vs ds h; rw [List.take_zero, List.take_zero]; exact .nil
    | succ n ih =>
      intro vs ds h
      generalize hF : ([] : List Addr) = F at h
      cases h with
      | nil => exact .nil
      | cons r t =>
        obtain ⟨e1, e2⟩ := List.append_eq_nil_iff.mp hF.symm
        subst e1 e2
        exact .cons (F := []) r (ih t)
  unfold cutV cutL
  rw [h.length]
  exact tk _ (dr _ h)
def eSlS (ea : Ev) (lo hi : Ov) : Ev := fun env => bindM (ea env) fun x e1 => bindM (lo e1) fun l e2 => bindM (hi e2) fun u e3 => match x with
  | .lst ds => if D.flat ds then some (.ok (.lst (cutL ds l u)), e3) else none
  | _ => none
theorem re_slS {ta : TE} {tl th : TO} {ea : Ev} {lo hi : Ov} {al : AL} (ha : RE P lv fl ta ea al fl1) (hl : RO P (al.slots ++ lv) fl1 tl lo fl2) (hh : RO P (al.slots ++ lv) fl2 th hi fl3) : RE P lv fl (tSl (rSlL P.K) ta tl th) (eSlS ea lo hi) .own fl3 := by
  refine ⟨hh.1.trans (hl.1.trans ha.1), fun σ env H Fs r env' S he Q hQ => ?_⟩
  refine ha.bind S he hQ.ex _ fun d e1 q he v F H1 Fs1 S1 st rp tk og => ?_
  refine hl.bind S1 he hQ.ex _ fun o1 e2 he H2 Fs2 S2 st2 => ?_
  refine hh.bind S2 he hQ.ex _ fun o2 e3 he H3 Fs3 S3 st3 => ?_
  split at he
  · split at he
    · rename_i hf
      cases he
      have st23 := st2.trans st3 hl.1 fun _ z => z
      obtain ⟨tk', rp'⟩ := TOK.step S1 tk rp st23 fun i hi => List.mem_append_left _ hi
      cases rp' with
      | @lst a xs ds F r z l =>
        refine ⟨a, xs, rfl, SqL.of r, fun p hp => ?_⟩
        have sall := st.trans st23 ha.1 fun _ h => List.mem_append_right _ h
        refine hQ (.ref p) [p] _ Fs3 (S3.grow (upd_keep hp)) (sall.trans (Step.grow (upd_keep hp)) (hh.1.trans (hl.1.trans ha.1)) fun _ h => h) (.lst upd_same (Nat.le_trans (cutV_length _ _ _) z) (((l.flat hf).2 _).cut _ _)) (TOK.fresh S3 (by simp) fun b hb => ?_) (Org.new fun b hb => ?_)
        · have : b = p := by simpa using hb
          subst this
          exact ⟨hp, live_lst⟩
        · have : b = p := by simpa using hb
          subst this
          exact sall.back0 hp
    · cases he
  · cases he
end
end VL
/-! V11: what loops walk; changes of a list that a name owns. -/
namespace VL
open PySem PySem.Spec L2
variable {K : PySem.W.Frag}
section
variable {P : Cz} {Z : Fz} {fl fl1 fl2 fl3 lv L : List Nat} {σ : L2.St} {env env' : Env} {H H' : Hp} {Fs Fs' : List (List Addr)}
def bItems (d : D) (e : Env) : Res (List D) := match d with
  | .lst ds => some (.ok ds, e)
  | _ => none
@[simp] theorem bItems_lst (l : List D) (e : Env) : bItems (.lst l) e = some (.ok l, e) := rfl
def ivL (ev : Ev) : Iv := fun env => bindM (ev env) bItems
theorem Rp.items {v : V} {d : D} {F : List Addr} {e1 e2 : Env} {r : Rs (List D)} (rp : Rp K H v d F) (h : bItems d e1 = some (r, e2)) : ∃ a xs G ds, r = .ok ds ∧ e2 = e1 ∧ v = .ref a ∧ F = a :: G ∧ SqL K H a xs ∧ RpL K H xs ds G ∧ xs.length ≤ sizeLine ∧ (∀ H' : Hp, (∀ b ∈ F, ∀ o, H b = some o → H' b = some o) → SqL K H' a xs) := by
  cases rp <;> first | (cases h; done) | skip
  rename_i a xs ds F r z l
  cases h
  exact ⟨a, xs, F, ds, rfl, rfl, rfl, rfl, SqL.of r, l, z, fun H' k => SqL.of (k a List.mem_cons_self _ r)⟩
/-- the script -/
def bScr (d : D) (e : Env) : Res (List D) := match d with
  | .scr ns => some (.ok (ns.map .int), e)
  | _ => none
@[simp] theorem bScr_scr (l : List Int) (e : Env) : bScr (.scr l) e = some (.ok (l.map .int), e) := rfl
def ivScr (ev : Ev) : Iv := fun env => bindM (ev env) bScr
theorem ri_scr {te : TE} {ev : Ev} {al : AL} (h : RE P lv fl te ev al fl1) : RI P lv fl (iList P.K te) (ivScr ev) al .own fl1 := by
  refine ⟨h.1, fun σ env H Fs r env' S he R hR => ?_⟩
  refine h.bind S he hR.ex _ fun d e1 q he v F H' Fs' S' st rp tk og => ?_
  unfold bScr at he
  split at he
  · rename_i ns
    cases he
    cases rp with
    | @scr a _ _ r z m hk =>
      refine ⟨a, rfl, ⟨_, r⟩, hR _ _ [] H' Fs' S' st ⟨by rw [List.length_map]; exact z, (fun b hb => nomatch hb), m, fun H2 k i d e => ?_, fun H2 k => ⟨_, hk H2 k, by rw [List.length_map, List.length_map]; exact Nat.le_refl _⟩⟩ tk TOK.nilOwn og⟩
      have hs := hk H2 k
      rw [List.getElem?_map] at e
      cases q : ns[i]? with
      | none => rw [q] at e; cases e
      | some x =>
        rw [q] at e
        cases e
        refine ⟨⟨_, .int x, hs, by rw [List.getElem?_map, q]; rfl⟩, fun y H3 hy => ?_⟩
        obtain ⟨e1, e2⟩ := hy
        subst e1
        have := e2 _ hs
        rw [List.getElem?_map, q] at this
        cases this
        exact ⟨fun _ _ e => e, [], .int x, fun b hb => nomatch hb⟩
  · cases he
theorem itok_list {a : Addr} {xs : List V} {ds : List D} {G : List Addr} (rl : RpL K H xs ds G) (hz : xs.length ≤ sizeLine) (hs : ∀ H' : Hp, (∀ b ∈ a :: G, ∀ o, H b = some o → H' b = some o) → SqL K H' a xs) (ha : ∃ o, H a = some o) : ItOK K (Itl K a) ds (a :: G) G H where
  len := by rw [← rl.length]; exact hz
  sub := fun b hb => List.mem_cons_of_mem _ hb
  tr := fun b hb => by
    rcases List.mem_cons.mp hb with rfl | hb
    · exact ha
    · exact rl.there b hb
  go := fun H2 k i d e => by
    obtain ⟨x, G', h1, h2, h3⟩ := rl.get e
    refine ⟨⟨xs, x, hs H2 k, h1⟩, fun y H3 hy => ?_⟩
    obtain ⟨e1, e2⟩ := hy
    subst e1
    have := e2 xs (hs _ k)
    rw [h1] at this
    cases this
    exact ⟨fun _ _ e => e, G', h2.keep fun b hb => k b (List.mem_cons_of_mem _ (h3.subset hb)), fun b hb => .inr (h3.subset hb)⟩
  stop := fun H2 k => ⟨xs, hs H2 k, by rw [rl.length]; exact Nat.le_refl _⟩
theorem ri_list {te : TE} {ev : Ev} {al : AL} (h : RE P lv fl te ev al fl1) : RI P lv fl (iList P.K te) (ivL ev) al al.child fl1 := by
  refine ⟨h.1, fun σ env H Fs r env' S he R hR => ?_⟩
  refine h.bind S he hR.ex _ fun d e1 q he v F H' Fs' S' st rp tk og => ?_
  obtain ⟨a, xs, G, ds, rfl, rfl, rfl, rfl, hs, rl, hz, hk⟩ := rp.items he
  exact ⟨a, rfl, ⟨xs, hs⟩, hR _ _ G H' Fs' S' st (itok_list rl hz hk (rp.there a List.mem_cons_self)) tk (tk.child (List.Sublist.refl _)) og⟩
def bItemsT (d : D) (e : Env) : Res (List D) := match d with
  | .tup ds => some (.ok ds, e)
  | _ => none
@[simp] theorem bItemsT_tup (l : List D) (e : Env) : bItemsT (.tup l) e = some (.ok l, e) := rfl
def ivT (ev : Ev) : Iv := fun env => bindM (ev env) bItemsT
theorem ri_tup {te : TE} {ev : Ev} {al : AL} (h : RE P lv fl te ev al fl1) : RI P lv fl (iTup P.K te) (ivT ev) al al.child fl1 := by
  refine ⟨h.1, fun σ env H Fs r env' S he R hR => ?_⟩
  refine h.bind S he hR.ex _ fun d e1 q he v F H' Fs' S' st rp tk og => ?_
  unfold bItemsT at he
  split at he
  · cases he
    cases rp with
    | @tup a xs ds G r z rl =>
      refine ⟨a, rfl, ⟨xs, SqT.of r⟩, hR _ _ G H' Fs' S' st ⟨by rw [← rl.length]; exact z, fun b hb => List.mem_cons_of_mem _ hb, fun b hb => ?_, fun H2 k i d e => ?_, fun H2 k => ⟨xs, SqT.of (k a List.mem_cons_self _ r), by rw [rl.length]; exact Nat.le_refl _⟩⟩ tk (tk.child (List.Sublist.refl _)) og⟩
      · rcases List.mem_cons.mp hb with rfl | hb
        · exact ⟨_, r⟩
        · exact rl.there b hb
      · obtain ⟨x, G', h1, h2, h3⟩ := rl.get e
        have hs : SqT P.K H2 a xs := SqT.of (k a List.mem_cons_self _ r)
        refine ⟨⟨xs, x, hs, h1⟩, fun y H3 hy => ?_⟩
        obtain ⟨e1, e2⟩ := hy
        subst e1
        have := e2 xs hs
        rw [h1] at this
        cases this
        exact ⟨fun _ _ e => e, G', h2.keep fun b hb => k b (List.mem_cons_of_mem _ (h3.subset hb)), fun b hb => .inr (h3.subset hb)⟩
  · cases he
/-- items that are scalars leave nothing behind -/
def bScalL (ds : List D) (e : Env) : Res (List D) := if D.flat ds then some (.ok ds, e) else none
def ivS (iv : Iv) : Iv := fun env => bindM (iv env) bScalL
theorem ri_scal {wi : TI} {iv : Iv} {al alc : AL} (h : RI P lv fl wi iv al alc fl1) : RI P lv fl wi (ivS iv) al .own fl1 := by
  refine ⟨h.1, fun σ env H Fs r env' S he R hR => ?_⟩
  refine h.bind S he hR.ex _ fun ds e1 he J F Fc H' Fs' S' st io tk tkc og => ?_
  unfold bScalL at he
  split at he
  · rename_i hf
    cases he
    refine hR J F [] H' Fs' S' st ⟨io.len, (fun b hb => nomatch hb), io.tr, fun H2 k i d e => ?_, io.stop⟩ tk TOK.nilOwn og
    obtain ⟨h1, h2⟩ := io.go H2 k i d e
    refine ⟨h1, fun x H3 hy => ?_⟩
    obtain ⟨h3, G, h4, _⟩ := h2 x H3 hy
    have e2 := h4.scal (List.all_eq_true.mp hf d (List.mem_of_getElem? e))
    subst e2
    exact ⟨h3, [], h4, fun b hb => nomatch hb⟩
  · cases he
def rangeD (lo : Int) (n : Nat) : List D := (List.range n).map fun (k : Nat) => D.int (lo + k)
theorem itok_range {lo : Int} {n : Nat} (hn : n ≤ 16777216) : ItOK K (Itr lo n) (rangeD lo n) [] [] H where
  len := by unfold rangeD; rw [List.length_map, List.length_range, sizeLine_eq]; exact hn
  sub := fun b hb => hb
  tr := fun b hb => nomatch hb
  go := fun H2 k i d e => by
    unfold rangeD at e
    rw [List.getElem?_map] at e
    have hi : i < n := by
      cases q : (List.range n)[i]? with
      | none => rw [q] at e; cases e
      | some x => simpa using (List.getElem?_eq_some_iff.mp q).1
    rw [List.getElem?_range hi] at e
    cases e
    refine ⟨hi, fun x H3 hy => ?_⟩
    obtain ⟨e1, e2⟩ := hy
    subst e1 e2
    exact ⟨fun _ _ e => e, [], .int _, fun b hb => nomatch hb⟩
  stop := fun H2 k => by
    show n ≤ (rangeD lo n).length
    unfold rangeD
    rw [List.length_map, List.length_range]
    exact Nat.le_refl _
def bRng1 (ds : List D) (e : Env) : Res (List D) := match ds with
  | [.int j] => if decide (j ≤ 16777216) && decide (-1000000000000 ≤ j) then some (.ok (rangeD 0 j.toNat), e) else none
  | _ => none
def ivR1 (av : Env → Res (List D)) : Iv := fun env => bindM (av env) bRng1
theorem ArgsV.one {ks : List (Option Nat)} {vs : List V} {d : D} {F : List Addr} (h : ArgsV K H σ ks vs [d] F) (hk : ks = [none]) : ∃ v, vs = [v] ∧ ∃ G, Rp K H v d G := by
  subst hk
  cases h with
  | val r t => cases t; exact ⟨_, rfl, _, r⟩
theorem ri_range1 {ta : TA} {av : Env → Res (List D)} {al : AL} (h : RA P lv fl ta av [none] al fl1) : RI P lv fl (iRng1 ta) (ivR1 av) .own .own fl1 := by
  refine ⟨h.1, fun σ env H Fs r env' S he R hR => ?_⟩
  refine h.bind S he hR.ex _ fun ds e1 he vs F H' Fs' S' st av tk og => ?_
  unfold bRng1 at he
  split at he
  · rename_i j
    split at he
    · rename_i hb
      simp only [Bool.and_eq_true, decide_eq_true_eq] at hb
      cases he
      obtain ⟨v, rfl, G, rp⟩ := av.one rfl
      cases rp
      exact ⟨j, rfl, by omega, by omega, hR _ [] [] H' Fs' S' st (itok_range (by omega)) TOK.nilOwn TOK.nilOwn Org.nil⟩
    · cases he
  · cases he
def bRng2 (ds : List D) (e : Env) : Res (List D) := match ds with
  | [.int i, .int j] => if decide (j ≤ 1000000000000) && decide (-1000000000000 ≤ j) && decide (i ≤ 1000000000000) && decide (-1000000000000 ≤ i) && decide (j - i ≤ 16777216) then some (.ok (rangeD i (j - i).toNat), e) else none
  | _ => none
def ivR2 (av : Env → Res (List D)) : Iv := fun env => bindM (av env) bRng2
theorem ri_range2 {ta : TA} {av : Env → Res (List D)} {al : AL} (h : RA P lv fl ta av [none, none] al fl1) : RI P lv fl (iRng2 ta) (ivR2 av) .own .own fl1 := by
  refine ⟨h.1, fun σ env H Fs r env' S he R hR => ?_⟩
  refine h.bind S he hR.ex _ fun ds e1 he vs F H' Fs' S' st av tk og => ?_
  unfold bRng2 at he
  split at he
  · rename_i i j
    split at he
    · rename_i hb
      simp only [Bool.and_eq_true, decide_eq_true_eq] at hb
      cases he
      cases av with
      | val r t =>
        cases t with
        | val r2 t =>
          cases t
          cases r
          cases r2
          exact ⟨i, j, rfl, ⟨by omega, by omega, by omega, by omega⟩, hR _ [] [] H' Fs' S' st (itok_range (by omega)) TOK.nilOwn TOK.nilOwn Org.nil⟩
    · cases he
  · cases he
/-! enumerate, zip -/
def enumD (ds : List D) : List D := (List.range ds.length).zipWith (fun (k : Nat) d => D.tup [.int k, d]) ds
theorem enumD_get {ds : List D} {i : Nat} {d : D} (e : (enumD ds)[i]? = some d) : ∃ x, ds[i]? = some x ∧ d = .tup [.int i, x] := by
  unfold enumD at e
  rw [List.getElem?_zipWith] at e
  cases q : ds[i]? with
  | none =>
    rw [q] at e
    cases h : (List.range ds.length)[i]? <;> rw [h] at e <;> cases e
  | some x =>
    have hi := (List.getElem?_eq_some_iff.mp q).1
    rw [List.getElem?_range hi, q] at e
    cases e
    exact ⟨x, rfl, rfl⟩
theorem enumD_length (ds : List D) : (enumD ds).length = ds.length := by unfold enumD; simp
def ivE (ev : Ev) : Iv := fun env => bindM (ivL ev env) fun ds e => some (.ok (enumD ds), e)
theorem pair_rp {T : Addr} {x y : V} {dx dy : D} {G G2 : List Addr} (hT : H T = none) (h1 : Rp K H x dx G) (h2 : Rp K H y dy G2) : Rp K (upd H T (.tup [x, y])) (.ref T) (.tup [dx, dy]) (T :: (G ++ (G2 ++ []))) :=
  .tup upd_same (by show 2 ≤ sizeLine; rw [sizeLine_eq]; omega) (.cons (h1.keep fun b _ => upd_keep hT b) (.cons (h2.keep fun b _ => upd_keep hT b) .nil))
theorem ri_enum {te : TE} {ev : Ev} {al : AL} (h : RE P lv fl te ev al fl1) : RI P lv fl (iEnum P.K (tCons te tNil)) (ivE ev) al al.child fl1 := by
  refine ⟨h.1, fun σ env H Fs r env' S he R hR => ?_⟩
  have he : bindM (ev env) (fun d e => bindM (bItems d e) fun ds e => some (.ok (enumD ds), e)) = some (r, env') := by
    unfold ivE ivL at he
    cases q : ev env with
    | none => rw [q] at he; cases he
    | some p =>
      obtain ⟨r1, e1⟩ := p
      rw [q] at he
      cases r1 <;> exact he
  show te σ H (fun x H1 => ∃ a xs, [x] = [V.ref a] ∧ SqL P.K H1 a xs ∧ R (Ite P.K a) H1)
  refine h.bind S he hR.ex _ fun d e1 q he v F H' Fs' S' st rp tk og => ?_
  cases q2 : bItems d e1 with
  | none => rw [q2] at he; cases he
  | some p2 =>
    obtain ⟨r2, e2⟩ := p2
    rw [q2] at he
    obtain ⟨a, xs, G, ds, rfl, rfl, rfl, rfl, hs, rl, hz, hk⟩ := rp.items q2
    cases he
    have ha := rp.there a List.mem_cons_self
    refine ⟨a, xs, rfl, hs, hR _ _ G H' Fs' S' st ⟨by rw [enumD_length, ← rl.length]; exact hz, fun b hb => List.mem_cons_of_mem _ hb, fun b hb => ?_, fun H2 k i d e => ?_, fun H2 k => ⟨xs, hk H2 k, by rw [enumD_length, rl.length]; exact Nat.le_refl _⟩⟩ tk (tk.child (List.Sublist.refl _)) og⟩
    · rcases List.mem_cons.mp hb with rfl | hb
      · exact ha
      · exact rl.there b hb
    · obtain ⟨x, ex, rfl⟩ := enumD_get e
      obtain ⟨y, G', h1, h2, h3⟩ := rl.get ex
      refine ⟨⟨xs, y, hk H2 k, h1⟩, fun v H3 hy => ?_⟩
      obtain ⟨T, z, rfl, hT, rfl, hz'⟩ := hy
      have := hz' xs (hk H2 k)
      rw [h1] at this
      cases this
      refine ⟨upd_keep hT, _, pair_rp hT (.int _) (h2.keep fun b hb => k b (List.mem_cons_of_mem _ (h3.subset hb))), fun b hb => ?_⟩
      rcases List.mem_cons.mp hb with rfl | hb
      · exact .inl hT
      · exact .inr (h3.subset (by simpa using hb))
def zipD (as bs : List D) : List D := List.zipWith (fun a b => D.tup [a, b]) as bs
def ivZ (ea eb : Ev) : Iv := fun env => bindM (ea env) fun d e => bindM (eb e) fun d2 e2 => bindM (bItems d e2) fun as e3 => bindM (bItems d2 e3) fun bs e4 => some (.ok (zipD as bs), e4)
theorem zipD_get {as bs : List D} {i : Nat} {d : D} (e : (zipD as bs)[i]? = some d) : ∃ x y, as[i]? = some x ∧ bs[i]? = some y ∧ d = .tup [x, y] := by
  unfold zipD at e
  rw [List.getElem?_zipWith] at e
  cases q : as[i]? with
  | none => rw [q] at e; cases e
  | some x =>
    cases q2 : bs[i]? with
    | none => rw [q, q2] at e; cases e
    | some y =>
      rw [q, q2] at e
      cases e
      exact ⟨x, y, rfl, rfl, rfl⟩
theorem ri_zip {ta tb : TE} {ea eb : Ev} {al al2 : AL} (ha : RE P lv fl ta ea al fl1) (hb : RE P (al.slots ++ lv) fl1 tb eb al2 fl2) : RI P lv fl (iZip P.K (tCons ta (tCons tb tNil))) (ivZ ea eb) (al.join al2) (al.child.join al2.child) fl2 := by
  refine ⟨hb.1.trans ha.1, fun σ env H Fs r env' S he R hR => ?_⟩
  show ta σ H (fun x H1 => tb σ H1 fun y H2 => ∃ a b xs ys, [x, y] = [V.ref a, V.ref b] ∧ SqL P.K H2 a xs ∧ SqL P.K H2 b ys ∧ R (Itz P.K a b) H2)
  refine ha.bind S he hR.ex _ fun d e1 q he v F H1 Fs1 S1 st rp tk og => ?_
  refine hb.bind S1 he hR.ex _ fun d2 e2 q2 he v2 F2 H2 Fs2 S2 st2 rp2 tk2 og2 => ?_
  obtain ⟨tk', rp'⟩ := TOK.step S1 tk rp st2 fun i hi => List.mem_append_left _ hi
  cases q3 : bItems d e2 with
  | none => rw [q3] at he; cases he
  | some p3 =>
    obtain ⟨r3, e3⟩ := p3
    rw [q3] at he
    obtain ⟨a, xs, G, as, rfl, rfl, rfl, rfl, hs, rl, hz, hk⟩ := rp'.items q3
    simp only [bindM_ok] at he
    cases q4 : bItems d2 e3 with
    | none => rw [q4] at he; cases he
    | some p4 =>
      obtain ⟨r4, e4⟩ := p4
      rw [q4] at he
      obtain ⟨b, ys, G2, bs, rfl, rfl, rfl, rfl, hs2, rl2, hz2, hk2⟩ := rp2.items q4
      cases he
      have dj : al = .own → al2 = .own → ∀ c ∈ a :: G, c ∉ b :: G2 := fun e _ c hc hG => by
        subst e
        rcases og2 c hG with h | ⟨j, L', e, hL, _⟩
        · obtain ⟨o, q⟩ := rp.there c hc
          rw [h] at q; cases q
        · rcases tk.pt c hc with ⟨i, _, h, _⟩ | ⟨_, h⟩
          · cases h
          · exact h j L' e hL
      have kA : ∀ H3 : Hp, (∀ c ∈ a :: G ++ b :: G2, ∀ o, H2 c = some o → H3 c = some o) → SqL P.K H3 a xs := fun H3 k => hk H3 fun c hc => k c (List.mem_append_left _ hc)
      have kB : ∀ H3 : Hp, (∀ c ∈ a :: G ++ b :: G2, ∀ o, H2 c = some o → H3 c = some o) → SqL P.K H3 b ys := fun H3 k => hk2 H3 fun c hc => k c (List.mem_append_right _ hc)
      refine ⟨a, b, xs, ys, rfl, hs, hs2, hR _ (a :: G ++ b :: G2) (G ++ G2) H2 Fs2 S2 (st.trans st2 ha.1 fun _ h => List.mem_append_right _ h) ⟨?_, fun c hc => ?_, fun c hc => ?_, fun H3 k i d e => ?_, fun H3 k => ?_⟩ (tk'.join tk2 dj) ((tk'.child (List.Sublist.refl _)).join (tk2.child (List.Sublist.refl _)) fun e1 e2 c hc hG => ?_) fun c hc => ?_⟩
      · show (List.zipWith _ as bs).length ≤ _
        rw [List.length_zipWith]
        have := rl.length
        omega
      · rcases List.mem_append.mp hc with hc | hc
        · exact List.mem_append_left _ (List.mem_cons_of_mem _ hc)
        · exact List.mem_append_right _ (List.mem_cons_of_mem _ hc)
      · rcases List.mem_append.mp hc with hc | hc
        · exact rp'.there c hc
        · exact rp2.there c hc
      · obtain ⟨x, y, ex, ey, rfl⟩ := zipD_get e
        obtain ⟨u, Gu, h1, h2, h3⟩ := rl.get ex
        obtain ⟨w, Gw, h4, h5, h6⟩ := rl2.get ey
        refine ⟨⟨xs, ys, u, w, kA H3 k, kB H3 k, h1, h4⟩, fun v H4 hy => ?_⟩
        obtain ⟨T, u', w', rfl, hT, rfl, hu, hw⟩ := hy
        have e1 := hu xs (kA H3 k)
        have e2 := hw ys (kB H3 k)
        rw [h1] at e1
        rw [h4] at e2
        cases e1; cases e2
        refine ⟨upd_keep hT, _, pair_rp hT (h2.keep fun c hc => k c (List.mem_append_left _ (List.mem_cons_of_mem _ (h3.subset hc)))) (h5.keep fun c hc => k c (List.mem_append_right _ (List.mem_cons_of_mem _ (h6.subset hc)))), fun c hc => ?_⟩
        rcases List.mem_cons.mp hc with rfl | hc
        · exact .inl hT
        · rcases List.mem_append.mp hc with hc | hc
          · exact .inr (List.mem_append_left _ (h3.subset hc))
          · exact .inr (List.mem_append_right _ (h6.subset (by simpa using hc)))
      · refine ⟨xs, ys, kA H3 k, kB H3 k, ?_⟩
        have h1 := rl.length
        have h2 := rl2.length
        have h3 : (zipD as bs).length = min as.length bs.length := List.length_zipWith
        omega
      · have e1' : al = .own := by cases al <;> first | rfl | cases e1
        have e2' : al2 = .own := by cases al2 <;> first | rfl | cases e2
        exact dj e1' e2' c (List.mem_cons_of_mem _ hc) (List.mem_cons_of_mem _ hG)
      · rcases List.mem_append.mp hc with hc | hc
        · exact (og.weak fun z => (AL.join_own z).1) c hc
        · exact ((og2.back st ha.1 fun _ z => List.mem_append_right _ z).weak fun z => (AL.join_own z).2) c hc
end
end VL
/-! V12: changes of a list that a name owns; x op= e. -/
namespace VL
open PySem PySem.Spec L2
variable {K : PySem.W.Frag}
section
variable {P : Cz} {Z : Fz} {fl fl1 fl2 fl3 lv L : List Nat} {σ : L2.St} {env env' : Env} {H H' H1 : Hp} {Fs Fs' Fs1 : List (List Addr)}
/-- the list at the root of slot i gets other items -/
theorem SI.updRoot {i n : Nat} {a : Addr} {xs ws : List V} {es : List D} {G G' : List Addr} {d0 : D} (S : SI P fl σ env H Fs) (hf : fl[i]? = some n) (hn : 1 ≤ n) (he : env[i]? = some (some d0)) (hF : Fs[i]? = some (a :: G)) (hσ : σ[i]? = some (some (.ref a))) (rl : RpL P.K H ws es G') (hz : ws.length ≤ sizeLine)
    (c2 : a ∉ G') (c3 : 2 ≤ n → G'.Nodup ∧ ∀ b ∈ G', Live H b ∧ Orig P i n b ∧ ∀ (j : Nat) (L : List Addr), j ≠ i → Fs[j]? = some L → b ∉ L) (c4 : ∀ (j m : Nat) (L : List Addr), j ≠ i → fl[j]? = some m → Fs[j]? = some L → ∀ b ∈ reg m L, b ∉ G') (c5 : n ≠ 3 → ∀ b ∈ G', P.H0 b = none ∨ b ∈ P.B) :
    SI P fl σ (env.set i (some (.lst es))) (upd H a (.lst ws)) (Fs.set i (a :: G')) := by
  have o := S.own i n _ hf hF
  obtain ⟨oa, la, na⟩ := o.pt a (reg1 hn)
  have le : i < env.length := (List.getElem?_eq_some_iff.mp he).1
  have lf : i < Fs.length := (List.getElem?_eq_some_iff.mp hF).1
  have kp : ∀ b, b ≠ a → ∀ o, H b = some o → upd H a (.lst ws) b = some o := fun b hb o e => by rw [upd_ne hb]; exact e
  refine ⟨by simp [S.l1], by simp [S.l2], by simp [S.l3], fun j d e => ?_, fun j e => ?_, fun j m F e eF => ?_, fun b o e hb => ?_, fun b hb => ?_, S.vi⟩
  · by_cases hj : j = i
    · subst hj
      rw [List.getElem?_set_self le] at e
      cases e
      exact ⟨.ref a, a :: G', hσ, List.getElem?_set_self lf, .lst upd_same hz (rl.keep fun b hb => kp b fun z => c2 (z ▸ hb))⟩
    · rw [List.getElem?_set_ne (Ne.symm hj)] at e
      obtain ⟨v, F, h1, h2, r⟩ := S.rep j d e
      exact ⟨v, F, h1, by rw [List.getElem?_set_ne (Ne.symm hj)]; exact h2, r.keep fun b hb => kp b fun z => na j F hj h2 (z ▸ hb)⟩
  · by_cases hj : j = i
    · subst hj
      rw [List.getElem?_set_self le] at e; cases e
    · rw [List.getElem?_set_ne (Ne.symm hj)] at e ⊢
      exact S.nul j e
  · by_cases hj : j = i
    · subst hj
      rw [List.getElem?_set_self lf] at eF
      cases eF
      rw [hf] at e
      cases e
      refine ⟨fun h2 => List.nodup_cons.mpr ⟨c2, (c3 h2).1⟩, fun _ a' G2 e => ?_, fun b hb => ?_, fun h3 b hb => ?_⟩
      · cases e; exact c2
      · rcases List.mem_cons.mp (reg_sub b hb) with rfl | hb'
        · exact ⟨oa, live_lst, fun j L hj ej => by
            rw [List.getElem?_set_ne (Ne.symm hj)] at ej
            exact na j L hj ej⟩
        · have h2 : 2 ≤ n := by
            rcases Nat.lt_or_ge n 2 with h | h
            · have : n = 1 := by omega
              subst this
              have : b = a := by simpa [reg] using hb
              exact absurd (this ▸ hb') c2
            · exact h
          obtain ⟨q1, q2, q3⟩ := (c3 h2).2 b hb'
          exact ⟨q2, q1.keep (kp b fun z => c2 (z ▸ hb')), fun j L hj ej => by
            rw [List.getElem?_set_ne (Ne.symm hj)] at ej
            exact q3 j L hj ej⟩
      · rcases List.mem_cons.mp hb with rfl | hb
        · exact o.bas h3 b List.mem_cons_self
        · exact c5 h3 b hb
    · rw [List.getElem?_set_ne (Ne.symm hj)] at eF
      have o' := S.own j m F e eF
      refine ⟨o'.nd, o'.rt, fun b hb => ?_, o'.bas⟩
      obtain ⟨q1, q2, q3⟩ := o'.pt b hb
      have nb : b ≠ a := fun z => na j F hj eF (z ▸ reg_sub b hb)
      refine ⟨q1, q2.keep (kp b nb), fun l L hl el => ?_⟩
      by_cases hli : l = i
      · subst hli
        rw [List.getElem?_set_self lf] at el
        cases el
        intro z
        rcases List.mem_cons.mp z with z | z
        · exact nb z
        · exact c4 j m F hj e eF b hb z
      · rw [List.getElem?_set_ne (Ne.symm hli)] at el
        exact q3 l L hl el
  · have hfr := S.frm b o e hb
    have : b ≠ a := fun z => by
      subst z
      rcases oa with w | ⟨_, _, w⟩
      · rw [e] at w; cases w
      · exact hb w
    exact kp b this o hfr
  · obtain ⟨x, e⟩ := S.mm b hb
    by_cases z : b = a
    · exact ⟨_, by rw [z]; exact upd_same⟩
    · exact ⟨x, kp b z x e⟩
def ownFl (al : AL) (i : Nat) (fl : List Nat) : List Nat := match al with
  | .own => fl
  | al => (demote al fl).set i 1
def ownOk (lv fl : List Nat) (al : AL) (i : Nat) : Bool :=
  !lv.contains i && !al.slots.contains i && (match fl[i]? with | some n => decide (1 ≤ n) && decide (n ≤ 3) && (match al with | .own => true | _ => n != 3) | none => false) && demOk al fl && fl.all fun n => decide (n ≤ 3)
/-- the list of slot i gets items out of its own and of a value that waits -/
theorem root_new {al : AL} {i : Nat} {a : Addr} {xs ws : List V} {ds es : List D} {G G' F : List Addr} (S1 : SI P fl1 σ env' H' Fs') (sf : SubF fl1 fl) (st : Step lv fl H Fs H' Fs') (tk : TOK P.H0 al H' Fs' F) (og : Org lv fl H Fs al F) (hk : ownOk lv fl1 al i = true)
    (he : env'[i]? = some (some (.lst ds))) (hF : Fs'[i]? = some (a :: G)) (hσ : σ[i]? = some (some (.ref a))) (rl : RpL P.K H' ws es G') (hz : ws.length ≤ sizeLine) (hs : ∀ b ∈ G', b ∈ G ∨ b ∈ F) (hnd : (G ++ F).Nodup → G'.Nodup) :
    SI P (ownFl al i fl1) σ (env'.set i (some (.lst es))) (upd H' a (.lst ws)) (Fs'.set i (a :: G')) ∧ SStep lv fl H Fs (ownFl al i fl1) (upd H' a (.lst ws)) (Fs'.set i (a :: G')) := by
  simp only [ownOk, Bool.and_eq_true, List.all_eq_true, decide_eq_true_eq] at hk
  obtain ⟨⟨⟨⟨h1, h2⟩, h3⟩, hd⟩, h3l⟩ := hk
  have hil : i ∉ lv := by simpa using h1
  have hia : i ∉ al.slots := by simpa using h2
  obtain ⟨n, hf, hn, hn3⟩ : ∃ n, fl1[i]? = some n ∧ (1 ≤ n ∧ n ≤ 3) ∧ (al ≠ .own → n ≠ 3) := by
    split at h3
    · rename_i n e
      simp only [Bool.and_eq_true, decide_eq_true_eq] at h3
      refine ⟨n, e, h3.1, fun hal => ?_⟩
      cases al <;> first | exact absurd rfl hal | simpa using h3.2
    · cases h3
  have lf : i < Fs'.length := (List.getElem?_eq_some_iff.mp hF).1
  have o := S1.own i n _ hf hF
  have oa := o.pt a (reg1 hn.1)
  have aG : a ∉ G := by
    by_cases h : 2 ≤ n
    · exact (List.nodup_cons.mp (o.nd h)).1
    · exact o.rt (by omega) a G rfl
  have aF : a ∉ F := fun z => by
    rcases tk.pt a z with ⟨j, L', hj, ej, hL⟩ | ⟨_, h⟩
    · exact oa.2.2 j L' (fun w => hia (w ▸ hj)) ej hL
    · exact h i _ hF List.mem_cons_self
  have c2 : a ∉ G' := fun z => (hs a z).elim aG aF
  have basF : ∀ b ∈ F, P.H0 b = none ∨ b ∈ P.B := fun b hb => by
    rcases tk.pt b hb with ⟨j, G, hj, ej, hG⟩ | ⟨h, _⟩
    · have h := (List.getElem?_eq_some_iff.mp ej).1
      rw [S1.l3, ← S1.l2] at h
      refine (S1.own j _ G (List.getElem?_eq_getElem h) ej).bas (fun z => ?_) b hG
      have := List.all_eq_true.mp hd j hj
      rw [List.getElem?_eq_getElem h, z] at this
      simp at this
    · exact .inl h
  have ss := st.s S1 sf
  have hS : SI P (ownFl al i fl1) σ (env'.set i (some (.lst es))) (upd H' a (.lst ws)) (Fs'.set i (a :: G')) := by
    by_cases hal : al = .own
    · subst hal
      have nF : ∀ b ∈ F, P.H0 b = none ∧ Live H' b ∧ ∀ (j : Nat) (L : List Addr), Fs'[j]? = some L → b ∉ L := fun b hb => by
        rcases tk.pt b hb with ⟨j, _, hj, _⟩ | ⟨x, y⟩
        · cases hj
        · exact ⟨x, (tk.own rfl).2 b hb, y⟩
      refine S1.updRoot (xs := xs) hf hn.1 he hF hσ rl hz c2 (fun h2 => ⟨hnd (List.nodup_append.mpr ⟨(List.nodup_cons.mp (o.nd h2)).2, (tk.own rfl).1, fun x hx y hy z => (nF y hy).2.2 i _ hF (List.mem_cons_of_mem _ (z ▸ hx))⟩), fun b hb => ?_⟩) (fun j m L hj e1 e2 b hb hG' => ?_) fun h3 b hb => ?_
      · rcases hs b hb with hb | hb
        · obtain ⟨x, y, z⟩ := o.pt b (by rw [reg2 h2]; exact List.mem_cons_of_mem _ hb)
          exact ⟨y, x, z⟩
        · exact ⟨(nF b hb).2.1, .inl (nF b hb).1, fun j L _ e => (nF b hb).2.2 j L e⟩
      · rcases hs b hG' with w | w
        · exact ((S1.own j m L e1 e2).pt b hb).2.2 i _ (Ne.symm hj) hF (List.mem_cons_of_mem _ w)
        · exact (nF b w).2.2 j L e2 (reg_sub b hb)
      · rcases hs b hb with w | w
        · exact o.bas h3 b (List.mem_cons_of_mem _ w)
        · exact basF b w
    · have eo : ownFl al i fl1 = (demote al fl1).set i 1 := by cases al <;> first | exact absurd rfl hal | rfl
      rw [eo]
      have Sd := S1.demote hd
      have hfd : (demote al fl1)[i]? = some n := by
        unfold demote
        rw [dmF_get, hf]
        simp only [Option.map_some, Nat.zero_add]
        congr 1
        cases al with
        | own => rfl
        | var j =>
          have : i ≠ j := by simpa [AL.slots] using hia
          simp [dm, this]
        | sub j =>
          have : i ≠ j := by simpa [AL.slots] using hia
          simp [dm, this]
        | mix l =>
          have : i ∉ l := by simpa [AL.slots] using hia
          simp [dm, this]
      have ld : i < (demote al fl1).length := (List.getElem?_eq_some_iff.mp hfd).1
      have S2 : SI P ((demote al fl1).set i 1) σ env' H' Fs' := by
        refine ⟨Sd.l1, by simp [Sd.l2], Sd.l3, Sd.rep, Sd.nul, fun j m F' e1 e2 => ?_, Sd.frm, Sd.mm, fun j e1 => ?_⟩
        · by_cases hj : j = i
          · subst hj
            rw [List.getElem?_set_self ld] at e1
            cases e1
            refine (Sd.own j n F' hfd e2).weak ?_
            by_cases h : n = 1
            · exact .inl h.symm
            · exact .inr (.inr ⟨rfl, by omega, hn3 hal⟩)
          · rw [List.getElem?_set_ne (Ne.symm hj)] at e1
            exact Sd.own j m F' e1 e2
        · by_cases hj : j = i
          · subst hj
            rw [List.getElem?_set_self ld] at e1
            cases e1
          · rw [List.getElem?_set_ne (Ne.symm hj)] at e1
            exact Sd.vi j e1
      refine S2.updRoot (xs := xs) (n := 1) (List.getElem?_set_self ld) (Nat.le_refl _) he hF hσ rl hz c2 (fun h => by omega) (fun j m L hj e1 e2 b hb hG' => ?_) fun h3 b hb => ?_
      · rw [List.getElem?_set_ne (Ne.symm hj)] at e1
        rcases hs b hG' with w | w
        · exact ((Sd.own j m L e1 e2).pt b hb).2.2 i _ (Ne.symm hj) hF (List.mem_cons_of_mem _ w)
        · exact TOK.sep S1 tk j m L e1 e2 b hb w
      · rcases hs b hb with w | w
        · exact o.bas (hn3 hal) b (List.mem_cons_of_mem _ w)
        · exact basF b w
  refine ⟨hS, fun b x e hb => ?_, fun j m F' e1 e2 b hb => ?_, fun b x e => ?_⟩
  · have hne : b ≠ a := fun z => by
      subst z
      rcases ss.regs i n _ hf hF b (reg1 hn.1) with w | ⟨k, m, L', hk, e1, e2, hL⟩
      · rw [e] at w; cases w
      · refine hb k m L' ?_ e1 e2 hL
        rcases hk with ⟨_, hk⟩ | rfl
        · exact hk
        · exact hil
    rw [upd_ne hne]
    exact ss.keep b x e hb
  · have low : ∀ {j m : Nat}, (ownFl al i fl1)[j]? = some m → ∃ m', fl1[j]? = some m' ∧ m ≤ m' := fun {j m} e => by
      by_cases hal : al = .own
      · subst hal; exact ⟨m, e, Nat.le_refl _⟩
      · have eo : ownFl al i fl1 = (demote al fl1).set i 1 := by cases al <;> first | exact absurd rfl hal | rfl
        rw [eo] at e
        by_cases hj : j = i
        · subst hj
          rw [List.getElem?_set] at e
          simp only [if_true] at e
          split at e
          · cases e; exact ⟨n, hf, hn.1⟩
          · cases e
        · rw [List.getElem?_set_ne (Ne.symm hj)] at e
          obtain ⟨m', e', rfl⟩ := demote_get e
          exact ⟨m', e', dm_le⟩
    obtain ⟨m', em, hm⟩ := low e1
    by_cases hj : j = i
    · subst hj
      rw [List.getElem?_set_self lf] at e2
      cases e2
      rw [hf] at em
      cases em
      rcases List.mem_cons.mp (reg_sub b hb) with rfl | hb'
      · exact ss.regs j n _ hf hF b (reg1 hn.1)
      · have h2 : 2 ≤ m := by
          rcases Nat.lt_or_ge m 2 with h | h
          · by_cases h0 : m = 0
            · subst h0; cases hb
            · have : m = 1 := by omega
              subst this
              have : b = a := by simpa [reg] using hb
              exact absurd (this ▸ hb') c2
          · exact h
        rcases hs b hb' with w | w
        · exact ss.regs j n _ hf hF b (by rw [reg2 (by omega)]; exact List.mem_cons_of_mem _ w)
        · have hal : al = .own := by
            rcases Classical.em (al = .own) with h | h
            · exact h
            · have eo : ownFl al j fl1 = (demote al fl1).set j 1 := by cases al <;> first | exact absurd rfl h | rfl
              rw [eo, List.getElem?_set] at e1
              simp only [if_true] at e1
              split at e1
              · cases e1; omega
              · cases e1
          rcases og b w with z | ⟨k, L', ek, hL, fr⟩
          · exact .inl z
          · obtain ⟨q, eq, hq, hl⟩ := fr hal
            exact .inr ⟨k, q, L', .inl ⟨hil, hl⟩, eq, ek, by rw [reg2 hq]; exact hL⟩
    · rw [List.getElem?_set_ne (Ne.symm hj)] at e2
      exact ss.regs j m' F' em e2 b (reg_mono hm b hb)
  · obtain ⟨x', e'⟩ := ss.there b x e
    by_cases z : b = a
    · exact ⟨_, by rw [z]; exact upd_same⟩
    · exact ⟨x', by rw [upd_ne z]; exact e'⟩
/-! ### x.append(e) -/
def lstAt (i : Nat) (e : Env) : Option (List D) := match e[i]? with
  | some (some (.lst ds)) => some ds
  | _ => none
theorem lstAt_some {i : Nat} {ds : List D} (h : lstAt i env = some ds) : env[i]? = some (some (.lst ds)) := by
  unfold lstAt at h
  split at h
  · rename_i ds' e; cases h; exact e
  · cases h
theorem SI.lst (S : SI P fl σ env H Fs) {i : Nat} {ds : List D} (h : lstAt i env = some ds) : ∃ a xs G, σ[i]? = some (some (.ref a)) ∧ Fs[i]? = some (a :: G) ∧ H a = some (.lst xs) ∧ xs.length ≤ sizeLine ∧ RpL P.K H xs ds G := by
  obtain ⟨v, F, h1, h2, r⟩ := S.rep i _ (lstAt_some h)
  cases r with
  | lst r z l => exact ⟨_, _, _, h1, h2, r, z, l⟩
def bApp (i : Nat) (d : D) (e : Env) : Res Out := match lstAt i e with
  | some ds => if ds.length < 16777216 then some (.ok .nx, e.set i (some (.lst (ds ++ [d])))) else none
  | none => none
def sApp (i : Nat) (ev : Ev) : Sv := fun env => match lstAt i env with
  | some _ => bindM (ev env) (bApp i)
  | none => none
theorem rs_app {i : Nat} {te : TE} {ev : Ev} {al : AL} {flx : List Nat} (h : RE P lv fl te ev al fl1) (hk : ownOk lv fl1 al i = true := by rfl) (hw : flLe flx (ownFl al i fl1) = true := by rfl) : RS P Z lv fl (tDrop (tBM P.K "list" rAppend (tVar i) (tCons te tNil))) (sApp i ev) L flx := fun σ env H Fs r env' S he Dn hQ => by
  unfold sApp at he
  split at he
  rotate_left
  · cases he
  rename_i ds0 h0
  obtain ⟨a0, xs0, G0, hσ, _, ha0, _, _⟩ := S.lst h0
  refine ⟨.ref a0, hσ, .inl ⟨rfl, xs0, SqL.of ha0⟩, ?_⟩
  show te σ H (fun y H2 => rAppend (.ref a0) [y] H2 fun _ H3 => Dn.nx σ H3)
  refine h.bind S he hQ.ex _ fun d e1 q he v F H' Fs' S' st rp tk og => ?_
  unfold bApp at he
  split at he
  rotate_left
  · cases he
  rename_i ds h1
  split at he
  rotate_left
  · cases he
  rename_i hlen
  cases he
  obtain ⟨a, xs, G, hσ', hF, ha, hz, rl⟩ := S'.lst h1
  rw [hσ] at hσ'
  cases hσ'
  have hz' : xs.length < sizeLine := by rw [rl.length, sizeLine_eq]; exact hlen
  refine ⟨a0, xs, v, rfl, rfl, ha, hz', ?_⟩
  obtain ⟨S2, s2⟩ := root_new (xs := xs) S' h.1 st tk og hk (lstAt_some h1) hF hσ (rl.append (by
    have := RpL.cons rp .nil
    rwa [List.append_nil] at this)) (by rw [List.length_append]; exact hz') (fun b hb => List.mem_append.mp hb) (fun z => z)
  exact hQ σ _ _ (S2.weak hw) (s2.weak hw)
/-! ### x[k] = e -/
theorem RpL.setAt : ∀ {vs : List V} {ds : List D} {G : List Addr} {j : Nat} {v : V} {d : D} {F : List Addr}, RpL K H vs ds G → j < ds.length → Rp K H v d F → ∃ G', RpL K H (vs.set j v) (ds.set j d) G' ∧ (∀ b ∈ G', b ∈ G ∨ b ∈ F) ∧ ((G ++ F).Nodup → G'.Nodup)
  | _, _, _, _, _, _, _, .nil, hj, _ => by simp at hj
  | _, _, _, 0, v, d, F, .cons (F := F1) (G := G1) r t, _, q => by
    refine ⟨F ++ G1, .cons q t, fun b hb => ?_, fun nd => ?_⟩
    · rcases List.mem_append.mp hb with h | h
      · exact .inr h
      · exact .inl (List.mem_append_right _ h)
    · obtain ⟨n1, n2, n3⟩ := List.nodup_append.mp nd
      obtain ⟨m1, m2, m3⟩ := List.nodup_append.mp n1
      exact List.nodup_append.mpr ⟨n2, m2, fun x hx y hy z => n3 y (List.mem_append_right _ hy) x hx z.symm⟩
  | _, _, _, j + 1, v, d, F, .cons (F := F1) (G := G1) r t, hj, q => by
    obtain ⟨G', h1, h2, h3⟩ := RpL.setAt (j := j) t (by simpa using hj) q
    refine ⟨F1 ++ G', .cons r h1, fun b hb => ?_, fun nd => ?_⟩
    · rcases List.mem_append.mp hb with h | h
      · exact .inl (List.mem_append_left _ h)
      · rcases h2 b h with h | h
        · exact .inl (List.mem_append_right _ h)
        · exact .inr h
    · obtain ⟨n1, n2, n3⟩ := List.nodup_append.mp nd
      obtain ⟨m1, m2, m3⟩ := List.nodup_append.mp n1
      refine List.nodup_append.mpr ⟨m1, h3 (List.nodup_append.mpr ⟨m2, n2, fun x hx y hy => n3 x (List.mem_append_right _ hx) y hy⟩), fun x hx y hy z => ?_⟩
      rcases h2 y hy with w | w
      · exact m3 x hx y w z
      · exact n3 x (List.mem_append_left _ hx) y w z
def bSetIx (i : Nat) (d k : D) (e : Env) : Res Out := match lstAt i e, k with
  | some ds, .int j => match ixN ds.length j with
    | some n => some (.ok .nx, e.set i (some (.lst (ds.set n d))))
    | none => none
  | _, _ => none
def sSetIx (i : Nat) (ev ek : Ev) : Sv := fun env => bindM (ev env) fun d e => match lstAt i e with
  | some _ => bindM (ek e) (bSetIx i d)
  | none => none
theorem ixN_lt {n : Nat} {i : Int} {j : Nat} (h : ixN n i = some j) : j < n := (ixN_seq h).2.1
theorem rs_setIx {i : Nat} {te tk : TE} {ev ek : Ev} {al al2 : AL} {flx : List Nat} (h : RE P lv fl te ev al fl1) (h2 : RE P (al.slots ++ lv) fl1 tk ek al2 fl2) (hk : ownOk lv fl2 al i = true := by rfl) (hw : flLe flx (ownFl al i fl2) = true := by rfl) : RS P Z lv fl (tAsg te (gSub (tVar i) tk rSetL)) (sSetIx i ev ek) L flx := fun σ env H Fs r env' S he Dn hQ => by
  refine h.bind S he hQ.ex _ fun d e1 q he v F H1 Fs1 S1 st rp tok og => ?_
  split at he
  rotate_left
  · cases he
  rename_i ds0 h0
  obtain ⟨a0, xs0, G0, hσ, _, ha0, _, _⟩ := S1.lst h0
  refine ⟨.ref a0, hσ, ?_⟩
  refine h2.bind S1 he hQ.ex _ fun k e2 q2 he v2 F2 H2 Fs2 S2 st2 rp2 tok2 og2 => ?_
  obtain ⟨tok', rp'⟩ := TOK.step S1 tok rp st2 fun i hi => List.mem_append_left _ hi
  unfold bSetIx at he
  split at he
  rotate_left
  · cases he
  rename_i ds j h1
  split at he
  rotate_left
  · cases he
  rename_i n hix
  cases he
  obtain ⟨a, xs, G, hσ', hF, ha, hz, rl⟩ := S2.lst h1
  rw [hσ] at hσ'
  cases hσ'
  cases rp2
  refine ⟨a0, xs, j, n, rfl, rfl, ha, by rw [rl.length]; exact hix, ?_⟩
  obtain ⟨G', r1, r2, r3⟩ := rl.setAt (ixN_lt hix) rp'
  obtain ⟨S3, s3⟩ := root_new (xs := xs) S2 (h2.1.trans h.1) (st.trans st2 h.1 fun _ z => List.mem_append_right _ z) tok' og hk (lstAt_some h1) hF hσ r1 (by rw [List.length_set]; exact hz) r2 r3
  exact hQ σ _ _ (S3.weak hw) (s3.weak hw)
/-! ### x.insert(k, e) -/
def rInsert : V → List V → Hp → VK → Prop := fun x vs H Q => ∃ (l : Addr) (xs : List V) (i : Int) (y : V), x = .ref l ∧ vs = [.int i, y] ∧ H l = some (.lst xs) ∧ xs.length < sizeLine ∧ 0 ≤ i ∧ i < 2 ^ 63 ∧ Q .non (upd H l (.lst (xs.take i.toNat ++ [y] ++ xs.drop i.toNat)))
theorem RpL.insAt {vs : List V} {ds : List D} {G : List Addr} {v : V} {d : D} {F : List Addr} (n : Nat) (h : RpL K H vs ds G) (q : Rp K H v d F) : ∃ G', RpL K H (vs.take n ++ [v] ++ vs.drop n) (ds.take n ++ [d] ++ ds.drop n) G' ∧ (∀ b ∈ G', b ∈ G ∨ b ∈ F) ∧ ((G ++ F).Nodup → G'.Nodup) := by
  have e : RpL K H vs (ds.take n ++ ds.drop n) G := by rw [List.take_append_drop]; exact h
  obtain ⟨v1, v2, G1, G2, rfl, rfl, h1, h2⟩ := e.split
  have hl : v1.length = (ds.take n).length := h1.length
  have q1 : RpL K H [v] [d] F := by
    have := RpL.cons q .nil
    rwa [List.append_nil] at this
  have et : (v1 ++ v2).take n = v1 ∧ (v1 ++ v2).drop n = v2 := by
    by_cases hn : n ≤ ds.length
    · rw [List.length_take, Nat.min_eq_left hn] at hl
      rw [← hl]
      exact ⟨List.take_left, List.drop_left⟩
    · have h2l := h2.length
      rw [List.length_drop] at h2l
      have : v2 = [] := List.eq_nil_of_length_eq_zero (by omega)
      subst this
      rw [List.length_take] at hl
      rw [List.append_nil, List.take_of_length_le (by omega), List.drop_of_length_le (by omega)]
      exact ⟨rfl, rfl⟩
  rw [et.1, et.2]
  refine ⟨G1 ++ F ++ G2, (h1.append q1).append h2, fun b hb => ?_, fun nd => ?_⟩
  · rcases List.mem_append.mp hb with hb | hb
    · rcases List.mem_append.mp hb with hb | hb
      · exact .inl (List.mem_append_left _ hb)
      · exact .inr hb
    · exact .inl (List.mem_append_right _ hb)
  · obtain ⟨n1, n2, n3⟩ := List.nodup_append.mp nd
    obtain ⟨m1, m2, m3⟩ := List.nodup_append.mp n1
    refine List.nodup_append.mpr ⟨List.nodup_append.mpr ⟨m1, n2, fun x hx y hy => n3 x (List.mem_append_left _ hx) y hy⟩, m2, fun x hx y hy z => ?_⟩
    rcases List.mem_append.mp hx with w | w
    · exact m3 x w y hy z
    · exact n3 y (List.mem_append_right _ hy) x w z.symm
def bIns (i : Nat) (k d : D) (e : Env) : Res Out := match lstAt i e, k with
  | some ds, .int j => if decide (0 ≤ j) && decide (j < 9223372036854775808) && decide (ds.length < 16777216) then some (.ok .nx, e.set i (some (.lst (ds.take j.toNat ++ [d] ++ ds.drop j.toNat)))) else none
  | _, _ => none
def sIns (i : Nat) (ek ev : Ev) : Sv := fun env => match lstAt i env with
  | some _ => bindM (ek env) fun k e => bindM (ev e) fun d e2 => bIns i k d e2
  | none => none
theorem rs_ins {i : Nat} {te tk : TE} {ev ek : Ev} {al al2 : AL} {flx : List Nat} (h : RE P lv fl tk ek al fl1) (h2 : RE P (al.slots ++ lv) fl1 te ev al2 fl2) (hk : ownOk lv fl2 al2 i = true := by rfl) (hw : flLe flx (ownFl al2 i fl2) = true := by rfl) : RS P Z lv fl (tDrop (tBM P.K "list" rInsert (tVar i) (tCons tk (tCons te tNil)))) (sIns i ek ev) L flx := fun σ env H Fs r env' S he Dn hQ => by
  unfold sIns at he
  split at he
  rotate_left
  · cases he
  rename_i ds0 h0
  obtain ⟨a0, xs0, G0, hσ, _, ha0, _, _⟩ := S.lst h0
  refine ⟨.ref a0, hσ, .inl ⟨rfl, xs0, SqL.of ha0⟩, ?_⟩
  show tk σ H (fun x H1 => te σ H1 fun y H2 => rInsert (.ref a0) [x, y] H2 fun _ H3 => Dn.nx σ H3)
  refine h.bind S he hQ.ex _ fun k e1 q he v2 F2 H1 Fs1 S1 st rp2 tok2 og2 => ?_
  refine h2.bind S1 he hQ.ex _ fun d e2 q2 he v F H2 Fs2 S2 st2 rp tok og => ?_
  have sall := st.trans st2 h.1 fun _ z => List.mem_append_right _ z
  have oall : Org lv fl H Fs al2 F := og.back st h.1 fun _ z => List.mem_append_right _ z
  unfold bIns at he
  split at he
  rotate_left
  · cases he
  rename_i _ _ ds j h1 _
  obtain ⟨hc, he⟩ : (decide (0 ≤ j) && decide (j < 9223372036854775808) && decide (ds.length < 16777216)) = true ∧ some ((Rs.ok Out.nx : Rs Out), e2.set i (some (D.lst (ds.take j.toNat ++ [d] ++ ds.drop j.toNat)))) = some (r, env') := by
    split at he
    · rename_i hc; exact ⟨hc, he⟩
    · cases he
  simp only [Bool.and_eq_true, decide_eq_true_eq] at hc
  cases he
  obtain ⟨a, xs, G, hσ', hF, ha, hz, rl⟩ := S2.lst h1
  rw [hσ] at hσ'
  cases hσ'
  cases rp2
  have hz' : xs.length < sizeLine := by rw [rl.length, sizeLine_eq]; exact hc.2
  refine ⟨a0, xs, j, v, rfl, rfl, ha, hz', hc.1.1, by omega, ?_⟩
  obtain ⟨G', r1, r2, r3⟩ := rl.insAt j.toNat rp
  obtain ⟨S3, s3⟩ := root_new (xs := xs) S2 (h2.1.trans h.1) sall tok oall hk (lstAt_some h1) hF hσ r1 (by
    simp only [List.length_append, List.length_take, List.length_drop, List.length_cons, List.length_nil]
    omega) r2 r3
  exact hQ σ _ _ (S3.weak hw) (s3.weak hw)
/-! ### x op= e, ints -/
def bAug (f : D → D → Option D) (i : Nat) (x y : D) (e : Env) : Res Out := match f x y with
  | some d => if d.scal then some (.ok .nx, e.set i (some d)) else none
  | none => none
def sAug (f : D → D → Option D) (i : Nat) (ev : Ev) : Sv := fun env => bindM (eScal (eVar i) env) fun x e => bindM (ev e) fun y e2 => bAug f i x y e2
def OpI (K : PySem.W.Frag) (r : TIp) (f : D → D → Option D) : Prop := ∀ (H : Hp) (x y : V) (dx dy d : D) (Fx Fy : List Addr) (Q : VK), Rp K H x dx Fx → Rp K H y dy Fy → f dx dy = some d → (∀ v, Rp K H v d [] → Q v H) → r x y H Q
theorem oi_i2 {g : Int → Int → Int} : OpI K (ipI g) (dI2 fun i j => .int (g i j)) := by
  intro H x y dx dy d Fx Fy Q rx ry e q
  cases rx <;> cases ry <;> first | (cases e; done) | skip
  rename_i i j
  cases e
  exact ⟨i, j, rfl, rfl, q _ (.int _)⟩
theorem rs_aug {i : Nat} {te : TE} {ev : Ev} {al : AL} {r : TIp} {f : D → D → Option D} {flx : List Nat} (hr : OpI P.K r f) (h : RE P lv fl te ev al fl1) (hk : putOk lv fl1 .own [i] = true := by rfl) (hw : flLe flx (flPut .own fl1 [i]) = true := by rfl) : RS P Z lv fl (tAug i te r) (sAug f i ev) L flx := fun σ env H Fs r' env' S he Dn hQ => by
  unfold sAug at he
  cases q : eScal (eVar i) env with
  | none => rw [q] at he; cases he
  | some p =>
    obtain ⟨rx, e0⟩ := p
    have hv : ∃ d, env[i]? = some (some d) ∧ d.scal = true ∧ rx = .ok d ∧ e0 = env := by
      unfold eScal eVar at q
      split at q
      · rename_i d e
        simp only [bindM_ok, bScal] at q
        split at q
        · cases q; exact ⟨d, e, by assumption, rfl, rfl⟩
        · cases q
      · cases q
    obtain ⟨d0, e1, hs, rfl, rfl⟩ := hv
    rw [q] at he
    obtain ⟨v0, F0, h1, h2, r0⟩ := S.rep i d0 e1
    have eF := r0.scal hs
    subst eF
    refine ⟨v0, h1, ?_⟩
    refine h.bind S he hQ.ex _ fun y e2 q2 he v F H' Fs' S' st rp tk og => ?_
    unfold bAug at he
    split at he
    · rename_i d hd
      split at he
      · rename_i hds
        cases he
        refine hr H' v0 v d0 y d [] F _ (r0.keep fun b hb => nomatch hb) rp hd fun w rw' => ?_
        obtain ⟨Fs2, S2, s2⟩ := puts_all (is := [i]) (vs := [w]) (ds := [d]) (F := []) (F0 := []) (al := .own) S' h.1 st (by
          have := RpL.cons rw' .nil
          rwa [List.append_nil] at this) rfl TOK.nilOwn Org.nil hk
        exact hQ _ H' Fs2 (S2.weak hw) (s2.weak hw)
      · cases he
    · cases he
end
end VL
/-! V13: names for operations, chains, three names at once, a def that is called. -/
namespace VL
open PySem PySem.Spec L2
variable {K : PySem.W.Frag}
abbrev zAdd : R2 := rI0 fun i j => .int (i + j)
abbrev zSub : R2 := rI0 fun i j => .int (i - j)
abbrev zMul : R2 := rI CMulW fun i j => .int (i * j)
abbrev zDiv : R2 := rI CDivA fun i j => .int (i.fdiv j)
abbrev zMod : R2 := rI (fun _ j => j ≠ 0) fun i j => .int (i.fmod j)
abbrev zPow : R2 := rI CPow fun i j => .int (i ^ j.toNat)
abbrev zNeg : V → Hp → VK → Prop := rU fun i => .int (-i)
abbrev zLt : R2 := rI0 fun i j => .bl (decide (i < j))
abbrev zLe : R2 := rI0 fun i j => .bl (decide (i ≤ j))
abbrev zGt : R2 := rI0 fun i j => .bl (decide (j < i))
abbrev zGe : R2 := rI0 fun i j => .bl (decide (j ≤ i))
abbrev zIxA (K : PySem.W.Frag) : R2 := fun x y H Q => rIxL K x y H Q ∨ rIxT K x y H Q
abbrev zIsNo : R2 := fun x y H Q => y = .non ∧ Q (.bl (decide (x = .non))) H
abbrev zNotNo : R2 := fun x y H Q => y = .non ∧ Q (.bl (!decide (x = .non))) H
abbrev zLen (K : PySem.W.Frag) : List V → Hp → VK → Prop := fun xs H Q => ∃ p ys, xs = [.ref p] ∧ (SqL K H p ys ∨ SqT K H p ys) ∧ Q (.int ys.length) H
abbrev zIntC : List V → Hp → VK → Prop := fun xs H Q => (∃ i, xs = [.int i] ∧ Q (.int i) H) ∨ ∃ k, xs = [.bl k] ∧ Q (.int (if k then 1 else 0)) H
abbrev zAbsC : List V → Hp → VK → Prop := fun xs H Q => ∃ i, xs = [.int i] ∧ Q (.int (if i < 0 then -i else i)) H
abbrev zMaxC : List V → Hp → VK → Prop := fun xs H Q => ∃ i j, xs = [.int i, .int j] ∧ Q (.int (if j > i then j else i)) H
abbrev zMinC : List V → Hp → VK → Prop := fun xs H Q => ∃ i j, xs = [.int i, .int j] ∧ Q (.int (if j < i then j else i)) H
section
variable {P : Cz} {Z : Fz} {fl fl1 fl2 fl3 lv L : List Nat} {σ : L2.St} {env env' : Env} {H H' H1 : Hp} {Fs Fs' Fs1 : List (List Addr)}
/-! ### chains -/
theorem re_chain {r r' : R2} {f g : D → D → Option D} {ta tb tc : TE} {ea eb ec : Ev} {al al2 al3 : AL} (hr : OpS2 P.K r f) (hr' : OpS2 P.K r' g) (ha : RE P lv fl ta ea al fl1) (hb : RE P (al.slots ++ lv) fl1 tb eb al2 fl1) (hc : RE P (al2.slots ++ (al.slots ++ lv)) fl1 tc ec al3 fl1) : RE P lv fl (tChain r r' ta tb tc) (eChain f g ea eb ec) .own fl1 := by
  refine ⟨ha.1, fun σ env H Fs r env' S he Q hQ => ?_⟩
  refine ha.bind S he hQ.ex _ fun d e1 q he v F H1 Fs1 S1 st rp tk og => ?_
  refine hb.bind S1 he hQ.ex _ fun d2 e2 q2 he v2 F2 H2 Fs2 S2 st2 rp2 tk2 og2 => ?_
  obtain ⟨tk', rp'⟩ := TOK.step S1 tk rp st2 fun i hi => List.mem_append_left _ hi
  have hf : ∃ b, f d d2 = some (.bl b) ∧ cIf b (bindM (ec e2) fun z e4 => bindM (bO (g d2 z) e4) bOBl) (some (.ok (.bl false), e2)) = some (r, env') := by
    cases q : f d d2 with
    | none => rw [q] at he; cases he
    | some x =>
      rw [q] at he
      cases x with
      | bl b => exact ⟨b, rfl, he⟩
      | _ => cases he
  obtain ⟨b, hf, he⟩ := hf
  refine hr H2 v v2 d d2 _ F F2 _ rp' rp2 hf fun w H' G k rw' nd nk => ?_
  cases rw'
  have S2' : SI P fl1 σ e2 H' Fs2 := S2.grow k
  have st' : Step lv fl H Fs H' Fs2 := (st.trans st2 ha.1 fun _ h => List.mem_append_right _ h).trans (Step.grow k) ha.1 fun _ h => h
  refine ⟨b, rfl, ?_⟩
  cases b with
  | false =>
    rw [if_neg (by decide)]
    cases he
    exact hQ _ _ H' Fs2 S2' st' (.bl false) TOK.nilOwn Org.nil
  | true =>
    rw [if_pos rfl]
    refine hc.bind S2' he hQ.ex _ fun d3 e3 q3 he v3 F3 H3 Fs3 S3 st3 rp3 tk3 og3 => ?_
    obtain ⟨tk2', rp2'⟩ := TOK.step S2 tk2 rp2 ((Step.grow k).trans st3 SubF.refl fun _ h => h) fun i hi => List.mem_append_left _ hi
    have hg : ∃ b, g d2 d3 = some (.bl b) ∧ r = .ok (.bl b) ∧ env' = e3 := by
      cases q : g d2 d3 with
      | none => rw [q] at he; cases he
      | some x =>
        rw [q] at he
        cases x with
        | bl b => cases he; exact ⟨b, rfl, rfl, rfl⟩
        | _ => cases he
    obtain ⟨b, hg, rfl, rfl⟩ := hg
    refine hr' H3 v2 v3 d2 d3 _ F2 F3 _ rp2' rp3 hg fun w H4 G k' rw' nd nk' => ?_
    cases rw'
    exact hQ _ _ H4 Fs3 (S3.grow k') ((st'.trans st3 ha.1 fun _ h => List.mem_append_right _ (List.mem_append_right _ h)).trans (Step.grow k') ha.1 fun _ h => h) (.bl b) TOK.nilOwn Org.nil
/-! ### a, b, c = x, y, z -/
def sPar3 (i j l : Nat) (av : Env → Res (List D)) : Sv := fun env => bindM (av env) fun ds e => match ds with
  | [a, b, c] => some (.ok .nx, ((e.set i (some a)).set j (some b)).set l (some c))
  | _ => none
theorem rs_par3 {i j l : Nat} {ta : TA} {av : Env → Res (List D)} {al : AL} {flx : List Nat} (h : RA P lv fl ta av [none, none, none] al fl1) (hk : putOk lv fl1 al [i, j, l] = true := by rfl) (hw : flLe flx (flPut al fl1 [i, j, l]) = true := by rfl) : RS P Z lv fl (tPar3 i j l ta) (sPar3 i j l av) L flx := fun σ env H Fs r env' S he Dn hQ => by
  refine h.bind S he hQ.ex _ fun ds e1 he vs F H' Fs' S' st av tk og => ?_
  obtain ⟨rl, en⟩ := av.rpl rfl
  split at he
  · rename_i a b c
    cases he
    obtain ⟨u, v, w, rfl⟩ : ∃ u v w, vs = [u, v, w] := by
      match vs, en with
      | [u, v, w], _ => exact ⟨u, v, w, rfl⟩
    refine ⟨u, v, w, rfl, ?_⟩
    obtain ⟨Fs2, S2, s2⟩ := puts_all (is := [i, j, l]) (vs := [u, v, w]) (ds := [a, b, c]) (F := F) (F0 := F) S' h.1 st rl rfl tk og hk
    exact hQ _ H' Fs2 (S2.weak hw) (s2.weak hw)
  · cases he
end
/-! ### a def that is called -/
structure Cal (P : Program) (w : World) (K : PySem.W.Frag) (mg : Str → Option Value) (base : Heap) (CX : CXT) (x : Str) (k : Nat) (ps : List Str) (sp : Sp) : Prop where
  ex : ∃ (f : Addr) (fd : FuncData), FnOk P w K mg base CX k f fd ps sp ∧ Binds K fd ps [] ∧ mg x = some (.ref f) ∧ PySem.W.keepIn K (.ref f) = true
theorem pe_cal {X : Cx} {E : XK} {k : Nat} {x : Str} {ps : List Str} {sp : Sp} {p pos : Pos} {e : Expr} {es : List Expr} {t : TA} (C : Cal X.prog X.w X.K X.mg X.base CX0 x k ps sp) (hr : Room k X.A) (hg : Gl X x)
    (ha : PA X (e :: es) t) (hdb : (x == ("__debug__" : Str)) = false := by decide) (he : starEach (e :: es) X.env = (false, eval e X.env) :: starEach es X.env := by rfl) (hpl : (backTo pos (starEach es X.env)).any (·.1) = false := by rfl) :
    PE X (.Call (.Name x p) (e :: es) [] pos) (tCall sp [] E t) := by
  obtain ⟨f, fd, F, b, m, kp⟩ := C.ex
  exact pe_call F hr hg m kp b .nil (fun _ _ _ _ _ _ _ h => h.elim) ha hdb he hpl
/-- whole-number constants -/
theorem pe_gint {X : Cx} {x : Str} {i : Int} {pos : Pos} (hm : ∃ t, X.mg x = some (.int i t)) (hg : Gl X x) (hd : (x == ("__debug__" : Str)) = false := by decide) : PE X (.Name x pos) (tC (.int i)) := by
  obtain ⟨t, e⟩ := hm
  exact pe_glob hg e ⟨_, rfl⟩ hd
end VL
namespace VL
open PySem PySem.Spec L2
def sNo : Sv := fun _ => none
theorem bt_len : bootBuiltins "len" = some (.builtin "len") := by decide +kernel
theorem bt_int : bootBuiltins "int" = some (.type "int") := by decide +kernel
theorem bt_list : bootBuiltins "list" = some (.type "list") := by decide +kernel
theorem bt_tuple : bootBuiltins "tuple" = some (.type "tuple") := by decide +kernel
theorem bt_bool : bootBuiltins "bool" = some (.type "bool") := by decide +kernel
theorem bt_str : bootBuiltins "str" = some (.type "str") := by decide +kernel
theorem bt_abs : bootBuiltins "abs" = some (.builtin "abs") := by decide +kernel
theorem bt_max : bootBuiltins "max" = some (.builtin "max") := by decide +kernel
theorem bt_min : bootBuiltins "min" = some (.builtin "min") := by decide +kernel
theorem bt_sum : bootBuiltins "sum" = some (.builtin "sum") := by decide +kernel
theorem bt_all : bootBuiltins "all" = some (.builtin "all") := by decide +kernel
theorem bt_any : bootBuiltins "any" = some (.builtin "any") := by decide +kernel
theorem bt_sorted : bootBuiltins "sorted" = some (.builtin "sorted") := by decide +kernel
theorem bt_isinstance : bootBuiltins "isinstance" = some (.builtin "isinstance") := by decide +kernel
end VL
/-! V14: a change of a list that stands in a list that a name owns through and through. -/
namespace VL
open PySem PySem.Spec L2
variable {K : PySem.W.Frag}
abbrev dNeg : D → Option D := dI1 fun i => .int (-i)
/-- an item that is a list gets other items -/
theorem RpL.updSub : ∀ {H : Hp} {vs : List V} {ds : List D} {G : List Addr} {k : Nat} {es : List D}, RpL K H vs ds G → G.Nodup → ds[k]? = some (.lst es) →
    ∃ (b : Addr) (xs : List V) (Gb : List Addr), vs[k]? = some (.ref b) ∧ H b = some (.lst xs) ∧ RpL K H xs es Gb ∧ xs.length ≤ sizeLine ∧ b ∈ G ∧ b ∉ Gb ∧
      ∀ (ws : List V) (es' : List D) (G2 : List Addr), RpL K H ws es' G2 → ws.length ≤ sizeLine → List.Sublist G2 Gb → ∃ G', List.Sublist G' G ∧ RpL K (upd H b (.lst ws)) vs (ds.set k (.lst es')) G'
  | _, _, _, _, _, _, .nil, _, e => by simp at e
  | H, _, _, _, 0, es, .cons (G := G0) h t, nd, e => by
    simp at e
    subst e
    cases h with
    | @lst b xs _ Gb r z l =>
      have nd' : (b :: (Gb ++ G0)).Nodup := by simpa using nd
      obtain ⟨n1, n2⟩ := List.nodup_cons.mp nd'
      have b1 : b ∉ Gb := fun z => n1 (List.mem_append_left _ z)
      have b2 : b ∉ G0 := fun z => n1 (List.mem_append_right _ z)
      refine ⟨b, xs, Gb, rfl, r, l, z, by simp, b1, fun ws es' G2 q hz s => ⟨(b :: G2) ++ G0, (s.cons₂ b).append (List.Sublist.refl _), .cons (.lst upd_same hz (q.keep fun c hc o eo => ?_)) (t.keep fun c hc o eo => ?_)⟩⟩
      · have nc : c ≠ b := fun w => b1 (s.subset (w ▸ hc))
        rw [upd_ne nc]; exact eo
      · have nc : c ≠ b := fun w => b2 (w ▸ hc)
        rw [upd_ne nc]; exact eo
  | H, _, _, _, k + 1, es, .cons (F := F0) h t, nd, e => by
    obtain ⟨n1, n2, n3⟩ := List.nodup_append.mp nd
    obtain ⟨b, xs, Gb, h1, h2, h3, h4, h5, h6, h7⟩ := RpL.updSub (k := k) t n2 (by simpa using e)
    refine ⟨b, xs, Gb, by simpa using h1, h2, h3, h4, List.mem_append_right _ h5, h6, fun ws es' G2 q hz s => ?_⟩
    obtain ⟨G', s', r'⟩ := h7 ws es' G2 q hz s
    exact ⟨F0 ++ G', (List.Sublist.refl _).append s', .cons (h.keep fun c hc o eo => by rw [upd_ne (fun w => n3 c hc b h5 w)]; exact eo) r'⟩
section
variable {P : Cz} {Z : Fz} {fl fl1 fl2 fl3 lv L : List Nat} {σ : L2.St} {env env' : Env} {H H' H1 : Hp} {Fs Fs' Fs1 : List (List Addr)}
/-- a slot that owns all of its value: a part of it gets another content -/
theorem SI.updIn {i n : Nat} {b : Addr} {ws : List V} {F F' : List Addr} {d0 d' : D} {v : V} (S : SI P fl σ env H Fs) (hf : fl[i]? = some n) (hn : 2 ≤ n) (he : env[i]? = some (some d0)) (hF : Fs[i]? = some F) (hσ : σ[i]? = some (some v)) (hb : b ∈ F) (rp : Rp P.K (upd H b (.lst ws)) v d' F') (hs : List.Sublist F' F) :
    SI P fl σ (env.set i (some d')) (upd H b (.lst ws)) (Fs.set i F') := by
  have o := S.own i n _ hf hF
  obtain ⟨oa, la, na⟩ := o.pt b (by rw [reg2 hn]; exact hb)
  have le : i < env.length := (List.getElem?_eq_some_iff.mp he).1
  have lf : i < Fs.length := (List.getElem?_eq_some_iff.mp hF).1
  have kp : ∀ c, c ≠ b → ∀ o, H c = some o → upd H b (.lst ws) c = some o := fun c hc o e => by rw [upd_ne hc]; exact e
  refine ⟨by simp [S.l1], by simp [S.l2], by simp [S.l3], fun j d e => ?_, fun j e => ?_, fun j m F0 e eF => ?_, fun c o e hc => ?_, fun c hc => ?_, S.vi⟩
  · by_cases hj : j = i
    · subst hj
      rw [List.getElem?_set_self le] at e
      cases e
      exact ⟨v, F', hσ, List.getElem?_set_self lf, rp⟩
    · rw [List.getElem?_set_ne (Ne.symm hj)] at e
      obtain ⟨v, F, h1, h2, r⟩ := S.rep j d e
      exact ⟨v, F, h1, by rw [List.getElem?_set_ne (Ne.symm hj)]; exact h2, r.keep fun c hc => kp c fun z => na j F hj h2 (z ▸ hc)⟩
  · by_cases hj : j = i
    · subst hj
      rw [List.getElem?_set_self le] at e; cases e
    · rw [List.getElem?_set_ne (Ne.symm hj)] at e ⊢
      exact S.nul j e
  · by_cases hj : j = i
    · subst hj
      rw [List.getElem?_set_self lf] at eF
      cases eF
      rw [hf] at e
      cases e
      refine ⟨fun h2 => (o.nd h2).sublist hs, fun z => by omega, fun c hc => ?_, fun h3 c hc => o.bas h3 c (hs.subset hc)⟩
      obtain ⟨q1, q2, q3⟩ := o.pt c (by rw [reg2 hn]; exact hs.subset (reg_sub c hc))
      refine ⟨q1, ?_, fun l L hl el => ?_⟩
      · by_cases hcb : c = b
        · rw [hcb]; exact live_lst
        · exact q2.keep (kp c hcb)
      · rw [List.getElem?_set_ne (Ne.symm hl)] at el
        exact q3 l L hl el
    · rw [List.getElem?_set_ne (Ne.symm hj)] at eF
      have o' := S.own j m F0 e eF
      refine ⟨o'.nd, o'.rt, fun c hc => ?_, o'.bas⟩
      obtain ⟨q1, q2, q3⟩ := o'.pt c hc
      have nb : c ≠ b := fun z => na j F0 hj eF (z ▸ reg_sub c hc)
      refine ⟨q1, q2.keep (kp c nb), fun l L hl el => ?_⟩
      by_cases hli : l = i
      · subst hli
        rw [List.getElem?_set_self lf] at el
        cases el
        intro z
        exact q3 l F (Ne.symm hj) hF (hs.subset z)
      · rw [List.getElem?_set_ne (Ne.symm hli)] at el
        exact q3 l L hl el
  · by_cases z : c = b
    · subst z
      rcases oa with h | ⟨_, _, h⟩
      · rw [e] at h; cases h
      · exact absurd h hc
    · exact kp c z o (S.frm c o e hc)
  · obtain ⟨o', h⟩ := S.mm c hc
    by_cases z : c = b
    · exact ⟨_, by rw [z]; exact upd_same⟩
    · exact ⟨o', kp c z o' h⟩
theorem SStep.updIn {i n : Nat} {b : Addr} {o' : HO} {F F' : List Addr} (ss : SStep lv fl H Fs fl1 H' Fs') (S1 : SI P fl1 σ env' H' Fs') (hf : fl1[i]? = some n) (hn : 2 ≤ n) (hi : i ∉ lv) (hF : Fs'[i]? = some F) (hb : b ∈ F) (hs : List.Sublist F' F) :
    SStep lv fl H Fs fl1 (upd H' b o') (Fs'.set i F') := by
  have lf : i < Fs'.length := (List.getElem?_eq_some_iff.mp hF).1
  refine ⟨fun c o e hc => ?_, fun j m G e1 e2 c hc => ?_, fun c x e => ?_⟩
  · have hcb : c ≠ b := fun z => by
      subst z
      rcases ss.regs i n F hf hF c (by rw [reg2 hn]; exact hb) with w | ⟨k, q, G, hk, eq, eG, hG⟩
      · rw [e] at w; cases w
      · rcases hk with ⟨_, hk⟩ | rfl
        · exact hc k q G hk eq eG hG
        · exact hc k q G hi eq eG hG
    rw [upd_ne hcb]
    exact ss.keep c o e hc
  · by_cases hj : j = i
    · subst hj
      rw [List.getElem?_set_self lf] at e2
      cases e2
      rw [hf] at e1
      cases e1
      exact ss.regs j n F hf hF c (by rw [reg2 hn]; exact hs.subset (reg_sub c hc))
    · rw [List.getElem?_set_ne (Ne.symm hj)] at e2
      exact ss.regs j m G e1 e2 c hc
  · obtain ⟨x', e'⟩ := ss.there c x e
    by_cases z : c = b
    · exact ⟨_, by rw [z]; exact upd_same⟩
    · exact ⟨x', by rw [upd_ne z]; exact e'⟩
/-- a root that stays while a further expression is reckoned -/
theorem root_stays {i : Nat} {a : Addr} {G : List Addr} {o : HO} (S : SI P fl σ env H Fs) (st : Step lv fl H Fs H' Fs') (hi : i ∈ lv) (hF : Fs[i]? = some (a :: G)) (e : H a = some o) : H' a = some o :=
  st.keep a o e fun j F f eF hm => by
    obtain ⟨m, em, hm2, hj⟩ := f
    have hji : j ≠ i := fun z => hj (z ▸ hi)
    exact ((S.own j m F em eF).pt a (by rw [reg2 hm2]; exact hm)).2.2 i _ (Ne.symm hji) hF List.mem_cons_self
def pOk (lv fl : List Nat) (i : Nat) : Bool := !lv.contains i && (match fl[i]? with | some n => decide (2 ≤ n) | none => false)
theorem pOk_of {i : Nat} (h : pOk lv fl i = true) : i ∉ lv ∧ ∃ n, fl[i]? = some n ∧ 2 ≤ n := by
  simp only [pOk, Bool.and_eq_true] at h
  refine ⟨by simpa using h.1, ?_⟩
  have h2 := h.2
  split at h2
  · rename_i n e; exact ⟨n, e, by simpa using h2⟩
  · cases h2
/-- the item that a change is of: rows, the row's place, the row -/
def subAt (i : Nat) (k : D) (e : Env) : Option (List D × Nat × List D) := match lstAt i e, k with
  | some ds, .int j => match ixN ds.length j with
    | some n => match ds[n]? with
      | some (.lst es) => some (ds, n, es)
      | _ => none
    | none => none
  | _, _ => none
theorem subAt_some {i : Nat} {k : D} {e : Env} {ds es : List D} {n : Nat} (h : subAt i k e = some (ds, n, es)) : lstAt i e = some ds ∧ ∃ j, k = .int j ∧ ixN ds.length j = some n ∧ ds[n]? = some (.lst es) := by
  unfold subAt at h
  split at h
  · rename_i ds' j h1
    split at h
    · rename_i n' h2
      split at h
      · rename_i es' h3
        cases h
        exact ⟨h1, j, rfl, h2, h3⟩
      · cases h
    · cases h
  · cases h
/-! ### x[k].append(e) -/
def bAppP (i : Nat) (k d : D) (e : Env) : Res Out := match subAt i k e with
  | some (ds, n, es) => if d.scal = true ∧ es.length < 16777216 then some (.ok .nx, e.set i (some (.lst (ds.set n (.lst (es ++ [d])))))) else none
  | none => none
def sAppP (i : Nat) (ek ev : Ev) : Sv := fun env => match lstAt i env with
  | some _ => bindM (ek env) fun k e1 => match subAt i k e1 with
    | some _ => bindM (ev e1) fun d e2 => bAppP i k d e2
    | none => none
  | none => none
theorem scal_nil {H : Hp} {v : V} {d : D} {F : List Addr} (h : Rp K H v d F) (e : d.scal = true) : F = [] := by
  cases h <;> first | rfl | cases e
theorem rs_appP {i : Nat} {te tk : TE} {ev ek : Ev} {al al2 : AL} (h : RE P (i :: lv) fl tk ek al fl) (h2 : RE P (i :: lv) fl te ev al2 fl) (hk : pOk lv fl i = true := by rfl) : RS P Z lv fl (tDrop (tBM P.K "list" rAppend (tOp (zIxA P.K) (tVar i) tk) (tCons te tNil))) (sAppP i ek ev) L fl := fun σ env H Fs r env' S he Dn hQ => by
  obtain ⟨hil, n, hf, hn⟩ := pOk_of hk
  unfold sAppP at he
  split at he
  rotate_left
  · cases he
  rename_i ds0 h0
  obtain ⟨a0, xs0, G0, hσ, _, ha0, _, _⟩ := S.lst h0
  refine ⟨.ref a0, hσ, ?_⟩
  refine h.bind S he hQ.ex _ fun k e1 q he v F H1 Fs1 S1 st rp tk1 og => ?_
  split at he
  rotate_left
  · cases he
  rename_i p hp
  obtain ⟨ds1, n1, es1⟩ := p
  obtain ⟨hl1, j, rfl, hj, hes⟩ := subAt_some hp
  cases rp
  obtain ⟨a1, xs1, G1, hσ1, hF1, ha1, hz1, rl1⟩ := S1.lst hl1
  rw [hσ] at hσ1; cases hσ1
  have o1 := S1.own i n _ hf hF1
  have nd1 : G1.Nodup := (List.nodup_cons.mp (o1.nd hn)).2
  obtain ⟨b, ys, Gb, hb1, hb2, hb3, hb4, hb5, hb6, hb7⟩ := rl1.updSub nd1 hes
  refine .inl ⟨a0, xs1, j, .ref b, rfl, rfl, SqL.of ha1, ?_, ?_⟩
  · unfold atI
    rw [rl1.length, hj]
    exact hb1
  refine ⟨.inl ⟨rfl, ys, SqL.of hb2⟩, ?_⟩
  show te σ H1 (fun y H2 => rAppend (.ref b) [y] H2 fun _ H3 => Dn.nx σ H3)
  refine h2.bind S1 he hQ.ex _ fun d e2 q2 he v2 F2 H2 Fs2 S2 st2 rp2 tok2 og2 => ?_
  unfold bAppP at he
  split at he
  rotate_left
  · cases he
  rename_i ds n2 es hp2
  split at he
  rotate_left
  · cases he
  rename_i hc
  cases he
  obtain ⟨hl2, j', ej, hj2, hes2⟩ := subAt_some hp2
  cases ej
  obtain ⟨a2, xs2, G2, hσ2, hF2, ha2, hz2, rl2⟩ := S2.lst hl2
  rw [hσ] at hσ2; cases hσ2
  have ha2' := root_stays S1 st2 List.mem_cons_self hF1 ha1
  rw [ha2] at ha2'
  cases ha2'
  have o2 := S2.own i n _ hf hF2
  have nd2 : G2.Nodup := (List.nodup_cons.mp (o2.nd hn)).2
  have nn : n2 = n1 := by
    rw [← rl1.length] at hj
    rw [← rl2.length, hj] at hj2
    cases hj2; rfl
  subst nn
  obtain ⟨b', ys', Gb', hc1, hc2, hc3, hc4, hc5, hc6, hc7⟩ := rl2.updSub nd2 hes2
  rw [hb1] at hc1; cases hc1
  have hF2nil := scal_nil rp2 hc.1
  subst hF2nil
  have lys : ys'.length < sizeLine := by rw [hc3.length, sizeLine_eq]; exact hc.2
  refine ⟨b, ys', v2, rfl, rfl, hc2, lys, ?_⟩
  obtain ⟨G', sG, rl3⟩ := hc7 (ys' ++ [v2]) (es ++ [d]) Gb' (by
    have := hc3.append (RpL.cons rp2 .nil)
    simpa using this) (by rw [List.length_append]; exact lys) (List.Sublist.refl _)
  have nb : a0 ≠ b := fun z => (List.nodup_cons.mp (o2.nd hn)).1 (z ▸ hc5)
  have rp3 : Rp P.K (upd H2 b (.lst (ys' ++ [v2]))) (.ref a0) (.lst (ds.set n2 (.lst (es ++ [d])))) (a0 :: G') := .lst (by rw [upd_ne nb]; exact ha2) hz2 rl3
  have ss : SStep lv fl H Fs fl H2 Fs2 := (st.trans st2 SubF.refl fun _ z => z).s S2 SubF.refl |>.toLv fun i hi => List.mem_cons_of_mem _ hi
  exact hQ σ _ _ (S2.updIn hf hn (lstAt_some hl2) hF2 hσ (List.mem_cons_of_mem _ hc5) rp3 (sG.cons₂ a0)) (ss.updIn S2 hf hn hil hF2 (List.mem_cons_of_mem _ hc5) (sG.cons₂ a0))
/-! ### x[k][j] = e -/
def bSetP (i : Nat) (d k l : D) (e : Env) : Res Out := match subAt i k e, l with
  | some (ds, n, es), .int j => match ixN es.length j with
    | some m => if d.scal = true then some (.ok .nx, e.set i (some (.lst (ds.set n (.lst (es.set m d)))))) else none
    | none => none
  | _, _ => none
def sSetP (i : Nat) (ev ek el : Ev) : Sv := fun env => bindM (ev env) fun d e => match lstAt i e with
  | some _ => bindM (ek e) fun k e1 => match subAt i k e1 with
    | some _ => bindM (el e1) fun l e2 => bSetP i d k l e2
    | none => none
  | none => none
theorem RpL.setScal : ∀ {vs : List V} {ds : List D} {G : List Addr} {j : Nat} {v : V} {d : D}, RpL K H vs ds G → Rp K H v d [] → ∃ G', RpL K H (vs.set j v) (ds.set j d) G' ∧ List.Sublist G' G
  | _, _, _, _, _, _, .nil, _ => ⟨[], .nil, List.Sublist.refl _⟩
  | _, _, _, 0, v, d, .cons (F := F1) (G := G1) r t, q => ⟨[] ++ G1, .cons q t, by simp⟩
  | _, _, _, j + 1, v, d, .cons (F := F1) (G := G1) r t, q => by
    obtain ⟨G', h1, h2⟩ := RpL.setScal (j := j) t q
    exact ⟨F1 ++ G', .cons r h1, (List.Sublist.refl _).append h2⟩
theorem rs_setP {i : Nat} {te tk tl : TE} {ev ek el : Ev} {al al2 al3 : AL} (h : RE P lv fl te ev al fl) (h2 : RE P (i :: lv) fl tk ek al2 fl) (h3 : RE P (i :: lv) fl tl el al3 fl) (hk : pOk lv fl i = true := by rfl) : RS P Z lv fl (tAsg te (gSub (tOp (zIxA P.K) (tVar i) tk) tl rSetL)) (sSetP i ev ek el) L fl := fun σ env H Fs r env' S he Dn hQ => by
  obtain ⟨hil, n, hf, hn⟩ := pOk_of hk
  refine h.bind S he hQ.ex _ fun d e0 q0 he v F H0 Fs0 S0 st0 rp tok0 og0 => ?_
  split at he
  rotate_left
  · cases he
  rename_i ds0 h0
  obtain ⟨a0, xs0, G0, hσ, _, ha0, _, _⟩ := S0.lst h0
  refine ⟨.ref a0, hσ, ?_⟩
  refine h2.bind S0 he hQ.ex _ fun k e1 q1 he v1 F1 H1 Fs1 S1 st1 rp1 tk1 og1 => ?_
  split at he
  rotate_left
  · cases he
  rename_i p hp
  obtain ⟨ds1, n1, es1⟩ := p
  obtain ⟨hl1, j, rfl, hj, hes⟩ := subAt_some hp
  cases rp1
  obtain ⟨a1, xs1, G1, hσ1, hF1, ha1, hz1, rl1⟩ := S1.lst hl1
  rw [hσ] at hσ1; cases hσ1
  have o1 := S1.own i n _ hf hF1
  have nd1 : G1.Nodup := (List.nodup_cons.mp (o1.nd hn)).2
  obtain ⟨b, ys, Gb, hb1, hb2, hb3, hb4, hb5, hb6, hb7⟩ := rl1.updSub nd1 hes
  refine .inl ⟨a0, xs1, j, .ref b, rfl, rfl, SqL.of ha1, ?_, ?_⟩
  · unfold atI
    rw [rl1.length, hj]
    exact hb1
  refine h3.bind S1 he hQ.ex _ fun l e2 q2 he v2 F2 H2 Fs2 S2 st2 rp2 tok2 og2 => ?_
  unfold bSetP at he
  split at he
  rotate_left
  · cases he
  rename_i ds n2 es jj hp2
  split at he
  rotate_left
  · cases he
  rename_i m hm
  split at he
  rotate_left
  · cases he
  rename_i hc
  cases he
  cases rp2
  obtain ⟨hl2, j', ej, hj2, hes2⟩ := subAt_some hp2
  cases ej
  obtain ⟨a2, xs2, G2, hσ2, hF2, ha2, hz2, rl2⟩ := S2.lst hl2
  rw [hσ] at hσ2; cases hσ2
  have ha2' := root_stays S1 st2 List.mem_cons_self hF1 ha1
  rw [ha2] at ha2'
  cases ha2'
  have o2 := S2.own i n _ hf hF2
  have nd2 : G2.Nodup := (List.nodup_cons.mp (o2.nd hn)).2
  have nn : n2 = n1 := by
    rw [← rl1.length] at hj
    rw [← rl2.length, hj] at hj2
    cases hj2; rfl
  subst nn
  obtain ⟨b', ys', Gb', hc1, hc2, hc3, hc4, hc5, hc6, hc7⟩ := rl2.updSub nd2 hes2
  rw [hb1] at hc1; cases hc1
  have hFnil := scal_nil rp hc
  subst hFnil
  have rp' : Rp P.K H2 v d [] := rp.keep fun b hb => nomatch hb
  refine ⟨b, ys', jj, m, rfl, rfl, hc2, by rw [hc3.length]; exact hm, ?_⟩
  obtain ⟨Gs, rs1, rs2⟩ := RpL.setScal (j := m) hc3 rp'
  obtain ⟨G', sG, rl3⟩ := hc7 (ys'.set m v) (es.set m d) Gs rs1 (by rw [List.length_set]; exact hc4) rs2
  have nb : a0 ≠ b := fun z => (List.nodup_cons.mp (o2.nd hn)).1 (z ▸ hc5)
  have rp3 : Rp P.K (upd H2 b (.lst (ys'.set m v))) (.ref a0) (.lst (ds.set n2 (.lst (es.set m d)))) (a0 :: G') := .lst (by rw [upd_ne nb]; exact ha2) hz2 rl3
  have ss : SStep lv fl H Fs fl H2 Fs2 := (st0.trans (st1.trans st2 SubF.refl fun _ z => z) SubF.refl fun i hi => List.mem_cons_of_mem _ hi).s S2 SubF.refl
  exact hQ σ _ _ (S2.updIn hf hn (lstAt_some hl2) hF2 hσ (List.mem_cons_of_mem _ hc5) rp3 (sG.cons₂ a0)) (ss.updIn S2 hf hn hil hF2 (List.mem_cons_of_mem _ hc5) (sG.cons₂ a0))
end
end VL
/-! V15: a def that changes its first parameter and hands it back, called with a new thing. -/
namespace VL
open PySem PySem.Spec L2
variable {K : PySem.W.Frag}
def spM (K : PySem.W.Frag) (n : Nat) (f : List D → Option D) : Sp := fun vs H Q E => ∃ (v0 : V) (vr : List V) (d0 : D) (dr : List D) (F0 : List Addr) (d' : D), vs = v0 :: vr ∧ vr.length = n ∧ Rp K H v0 d0 F0 ∧ F0.Nodup ∧ (∀ b ∈ F0, Live H b) ∧ RpL K H vr dr [] ∧ f (d0 :: dr) = some d' ∧
  ∀ (H' : Hp) (F' : List Addr), Rp K H' v0 d' F' → F'.Nodup → (∀ b ∈ F', Live H' b ∧ (H b = none ∨ b ∈ F0)) → (∀ b o, H b = some o → b ∉ F0 → H' b = some o) → (∀ b o, H b = some o → ∃ o', H' b = some o') → Q v0 H'
theorem spM_len {n : Nat} {f : List D → Option D} : ∀ vs H Q E, spM K n f vs H Q E → vs.length = n + 1 := fun vs H Q E ⟨_, _, _, _, _, _, e, l, _⟩ => by rw [e]; simp [l]
def ksM (n : Nat) : List Bool := true :: List.replicate n false
/-- what the statements ahead of the return make of the first argument -/
def fM (N : Nat) (sv : Sv) : List D → Option D := fun ds => match sv (env0 ds N) with
  | some (.ok .nx, e) => match e[0]? with
    | some (some d) => some d
    | _ => none
  | _ => none
theorem args_vals {H : Hp} : ∀ {vr : List V} {dr : List D} {F : List Addr}, RpL K H vr dr F → F = [] → ArgsIn K H (List.replicate vr.length false) vr dr [] []
  | _, _, _, .nil, _ => .nil
  | _, _, _, .cons (F := F1) (G := G1) a b, e => by
    obtain ⟨rfl, rfl⟩ := List.append_eq_nil_iff.mp e
    exact .val a (args_vals b rfl)
theorem iout_vals {H H' : Hp} : ∀ {n : Nat} {vs : List V} {ios : List D} {Ms Ms' : List (List Addr)}, IOut K H H' (List.replicate n false) vs ios Ms Ms' → ios = [] ∧ Ms' = []
  | 0, _, _, _, _, .nil => ⟨rfl, rfl⟩
  | n + 1, _, _, _, _, .val h => iout_vals (n := n) h
theorem ioIx_rep : ∀ (n k : Nat), ioIx k (List.replicate n false) = []
  | 0, _ => rfl
  | n + 1, k => by
    show ioIx (k + 1) (List.replicate n false) = []
    exact ioIx_rep n (k + 1)
theorem body_okM {ca : String → Addr} {sv : Sv} {N : List Str} {vs : List V} {H : Hp} {Q : VK} {E : XK} {ts : TS} {L fl' : List Nat} {n m : Nat} (hn : N.length = n) (hks : m + 1 ≤ n) (h : ∀ P : Cz, P.ca = ca → P.E = E → P.K = K → RS P ⟨ioIx 0 (ksM m), false⟩ [] (flags0 (ksM m) n) ts sv L fl') (hend : retOk ⟨ioIx 0 (ksM m), false⟩ fl' .own = true)
    (hs : spM K m (fM n sv) vs H Q E) : tSeq ts (tRet (tVar 0)) { nx := fun _ H' => Q .non H', rt := Q } (L2.start N vs) H := by
  obtain ⟨v0, vr, d0, dr, F0, d1, rfl, hl, r0, nd0, lv0, rr, hf, q⟩ := hs
  have hA : ArgsIn K H (ksM m) (v0 :: vr) (d0 :: dr) [] [F0] := by
    have := args_vals rr rfl
    rw [hl] at this
    exact .io r0 this
  have hlen : (ksM m).length = m + 1 := by simp [ksM]
  have hio : ioIx 0 (ksM m) = [0] := by simp [ksM, ioIx, ioIx_rep]
  unfold fM at hf
  split at hf
  rotate_left
  · cases hf
  rename_i e hsv
  split at hf
  rotate_left
  · cases hf
  rename_i d he
  cases hf
  have hfm : fmOf (ksM m) n sv (d0 :: dr) = some (.ok .non, [d1]) := by
    unfold fmOf
    rw [hsv, hio]
    simp only [outIO]
    rw [he]
    rfl
  let Q' : VK := fun v H' => ∃ F', Rp K H' v0 d1 F' ∧ F'.Nodup ∧ (∀ b ∈ F', Live H' b ∧ (H b = none ∨ b ∈ F0)) ∧ (∀ b o, H b = some o → b ∉ F0 → H' b = some o) ∧ (∀ b o, H b = some o → ∃ o', H' b = some o')
  refine body_okG (ks := ksM m) (Q := Q') hn (by rw [hlen]; exact hks) h hend hA (by simpa using nd0) (r := .ok .non) (fun F hF b hb => ?_) (fun v H' F' Ms' post => ?_) hfm (fun σ' H' hσ hq => ?_) fun d e' hsv' => ?_
  · have : F = F0 := by simpa using hF
    subst this
    exact ⟨lv0 b hb, fun z => nomatch z⟩
  · obtain ⟨p1, p2, p3, p4, p5, p6, p7, p8⟩ := post
    have p4' : IOut K H H' (true :: List.replicate m false) (v0 :: vr) [d1] [F0] Ms' := p4
    cases p4' with
    | @io v d F F'' ks' vs' ds' Ms1 Ms1' r hb h =>
      obtain ⟨_, rfl⟩ := iout_vals h
      refine ⟨F'', r, by simpa using p5, fun b hb' => ⟨p6 F'' (by simp) b hb', hb b hb'⟩, fun b o e hb' => p1 b o e fun F hF => ?_, p2⟩
      have : F = F0 := by simpa using hF
      rw [this]; exact hb'
  · obtain ⟨F', a, b, c, d, e⟩ := hq
    have h0 : (0 : Nat) ∈ ioIx 0 (ksM m) := by rw [hio]; simp
    exact ⟨v0, hσ 0 h0, q H' F' a b c d e⟩
  · rw [hsv] at hsv'
    cases hsv'
section
variable {P : Cz} {Z : Fz} {fl fl1 fl2 fl3 lv L : List Nat} {σ : L2.St} {env env' : Env} {H H' H1 : Hp} {Fs Fs' Fs1 : List (List Addr)}
def bCallM (f : List D → Option D) (d : D) (ds : List D) (e : Env) : Res D := if ds.all D.scal = true then bO (f (d :: ds)) e else none
def eCallM (f : List D → Option D) (ea : Ev) (av : Env → Res (List D)) : Ev := fun env => bindM (ea env) fun d e => bindM (av e) fun ds e2 => bCallM f d ds e2
theorem rpl_scal {H : Hp} : ∀ {vs : List V} {ds : List D} {F : List Addr}, RpL K H vs ds F → ds.all D.scal = true → RpL K H vs ds []
  | _, _, _, .nil, _ => .nil
  | _, _, _, .cons a b, e => by
    simp only [List.all_cons, Bool.and_eq_true] at e
    have h := scal_nil a e.1
    subst h
    exact .cons (F := []) a (rpl_scal b e.2)
theorem re_callM {n : Nat} {te : TE} {ta : TA} {ea : Ev} {av : Env → Res (List D)} {ks : List (Option Nat)} {al : AL} {f : List D → Option D} (h : RE P lv fl te ea .own fl1) (h2 : RA P lv fl1 ta av ks al fl2) (hk : ks.all Option.isNone = true := by rfl) (hn : ks.length = n := by rfl) :
    RE P lv fl (tCall (spM P.K n f) [] P.E (tCons te ta)) (eCallM f ea av) .own fl2 := by
  refine ⟨h2.1.trans h.1, fun σ env H Fs r env' S he Q hQ => ?_⟩
  refine h.bind S he hQ.ex _ fun d e1 q he v F H1 Fs1 S1 st rp tk og => ?_
  refine h2.bind S1 he hQ.ex _ fun ds e2 he vs G H2 Fs2 S2 st2 av tk2 og2 => ?_
  obtain ⟨tk', rp'⟩ := TOK.step S1 tk rp st2 fun i hi => nomatch hi
  obtain ⟨rl, en⟩ := av.rpl hk
  unfold bCallM at he
  split at he
  rotate_left
  · cases he
  rename_i hsc
  obtain ⟨d', hd, rfl, rfl⟩ := bO_inv he
  obtain ⟨nF, lF⟩ := tk'.own rfl
  show spM P.K n f (v :: vs ++ []) H2 Q P.E
  rw [List.append_nil]
  refine ⟨v, vs, d, ds, F, d', rfl, ?_, rp', nF, lF, rpl_scal rl hsc, hd, fun H3 F3 r3 n3 l3 k3 t3 => ?_⟩
  · rw [← hn]; exact en
  have offF : ∀ b ∈ F, P.H0 b = none ∧ ∀ (j : Nat) (G : List Addr), Fs2[j]? = some G → b ∉ G := fun b hb => by
    rcases tk'.pt b hb with ⟨i, _, hi, _⟩ | z
    · cases hi
    · exact z
  have kp : ∀ (j : Nat) (G : List Addr), Fs2[j]? = some G → ∀ b ∈ G, ∀ o, H2 b = some o → H3 b = some o := fun j G e b hb o eo => k3 b o eo fun z => (offF b z).2 j G e hb
  have S3 : SI P fl2 σ env' H3 Fs2 := by
    refine ⟨S2.l1, S2.l2, S2.l3, fun i d e => ?_, S2.nul, fun i m F e1 e2 => ?_, fun b o e hb => k3 b o (S2.frm b o e hb) fun z => ?_, fun b hb => ?_, S2.vi⟩
    · obtain ⟨v, F, h1, h2, r⟩ := S2.rep i d e
      exact ⟨v, F, h1, h2, r.keep (kp i F h2)⟩
    · have o := S2.own i m F e1 e2
      exact ⟨o.nd, o.rt, fun b hb => by
        obtain ⟨q1, q2, q3⟩ := o.pt b hb
        exact ⟨q1, q2.keep (kp i F e2 b (reg_sub b hb)), q3⟩, o.bas⟩
    · rw [(offF b z).1] at e; cases e
    · obtain ⟨o, e⟩ := S2.mm b hb
      exact t3 b o e
  have st12 : Step lv fl H Fs H2 Fs2 := st.trans st2 h.1 fun _ z => z
  have offS : ∀ b o, H b = some o → (∀ i G, Free fl lv i → Fs[i]? = some G → b ∉ G) → b ∉ F := fun b o e hb hF => by
    rcases og b hF with z | ⟨j, G, ej, hG, hj⟩
    · rw [e] at z; cases z
    · exact hb j G (hj rfl) ej hG
  have st3 : Step lv fl H Fs H3 Fs2 := ⟨fun b o e hb => k3 b o (st12.keep b o e hb) (offS b o e hb), st12.same, st12.new, fun b o e => by
    obtain ⟨o', e'⟩ := st12.there b o e
    exact t3 b o' e'⟩
  refine hQ v F3 H3 Fs2 S3 st3 r3 ⟨fun b hb => .inr ⟨?_, fun j G e hG => ?_⟩, fun _ => ⟨n3, fun b hb => (l3 b hb).1⟩, (fun _ e => by cases e), (fun _ e => by cases e)⟩ fun b hb => ?_
  · rcases (l3 b hb).2 with z | z
    · exact S2.new z
    · exact (offF b z).1
  · rcases (l3 b hb).2 with z | z
    · obtain ⟨o, eo⟩ := S2.fp e b hG
      rw [z] at eo; cases eo
    · exact (offF b z).2 j G e hG
  · rcases (l3 b hb).2 with z | z
    · exact .inl (st12.back0 z)
    · exact og b z
end
end VL
namespace VL
open PySem PySem.Spec L2
/-- the script stands for itself -/
theorem scr_rp {K : PySem.W.Frag} {H : Hp} {a : Addr} {ns : List Int} (h : SqL K H a (ns.map V.int)) (hz : ns.length ≤ sizeLine) : ∃ F, Rp K H (.ref a) (.scr ns) F := by
  rcases h with r | r
  · exact ⟨[a], .scr (.inl r) hz (fun b hb => by
      have : b = a := by simpa using hb
      rw [this]; exact Rd.there r) fun H' k => .inl (Rd.keepAt r (k a (List.mem_singleton.mpr rfl)))⟩
  · exact ⟨[], .scr (.inr r) hz (fun b hb => nomatch hb) fun H' _ => .inr r⟩
end VL
/-! V16: plain reckoning with mirrors: data of whole numbers, rules for rewriting, loops. -/
namespace VL
open PySem PySem.Spec L2
/-! ### data -/
def zl (l : List Int) : D := .lst (l.map .int)
def zt (t : List (List Int)) : D := .lst (t.map zl)
theorem pyL_map {α : Type} (f : α → D) : ∀ l : List α, D.pyL (l.map f) = l.map fun a => (f a).py
  | [] => rfl
  | a :: l => by simp only [List.map_cons, D.pyL, pyL_map f l]
theorem canLay_map {α : Type} (f : α → PyData) : ∀ l : List α, (∀ a ∈ l, (f a).canLay0 = true) → PyData.canLayAll0 (l.map f) = true
  | [], _ => rfl
  | a :: l, h => by
    simp only [List.map_cons, PyData.canLayAll0, Bool.and_eq_true]
    exact ⟨h a (by simp), canLay_map f l fun b hb => h b (by simp [hb])⟩
theorem depth_map {α : Type} (f : α → PyData) (n : Nat) : ∀ l : List α, (∀ a ∈ l, (f a).depth ≤ n) → PyData.depthAll (l.map f) ≤ n
  | [], _ => Nat.zero_le _
  | a :: l, h => by
    simp only [List.map_cons, PyData.depthAll]
    exact Nat.max_le.mpr ⟨h a (by simp), depth_map f n l fun b hb => h b (by simp [hb])⟩
theorem eqv_map {α : Type} [DecidableEq α] (f : α → PyData) (h : ∀ a b, PyData.eqv (f a) (f b) = decide (a = b)) : ∀ l m : List α, PyData.eqvAll (l.map f) (m.map f) = decide (l = m)
  | [], [] => by simp [PyData.eqvAll]
  | [], _ :: _ => by simp [PyData.eqvAll]
  | _ :: _, [] => by simp [PyData.eqvAll]
  | a :: l, b :: m => by simp [PyData.eqvAll, h, eqv_map f h l m]
theorem zl_py (l : List Int) : (zl l).py = .list (l.map fun a => PyData.int a) := by
  unfold zl
  simp only [D.py, pyL_map]
theorem zl_can (l : List Int) : (zl l).py.canLay0 = true := by
  rw [zl_py]
  simp only [PyData.canLay0]
  exact canLay_map _ _ fun _ _ => by simp only [PyData.canLay0]
theorem zl_depth (l : List Int) : (zl l).py.depth ≤ 1 := by
  rw [zl_py]
  simp only [PyData.depth]
  have := depth_map (fun a : Int => PyData.int a) 0 l fun _ _ => by simp only [PyData.depth]; exact Nat.le_refl _
  omega
theorem zl_eqv (l m : List Int) : PyData.eqv (zl l).py (zl m).py = decide (l = m) := by
  rw [zl_py, zl_py]
  simp only [PyData.eqv]
  exact eqv_map _ (fun a b => by simp only [PyData.eqv]; by_cases h : a = b <;> simp [h]) l m
theorem zt_py (t : List (List Int)) : (zt t).py = .list (t.map fun l => (zl l).py) := by
  unfold zt
  simp only [D.py, pyL_map]
theorem zt_can (l : List (List Int)) : (zt l).py.canLay0 = true := by
  rw [zt_py]
  simp only [PyData.canLay0]
  exact canLay_map _ _ fun a _ => zl_can a
theorem zt_depth (l : List (List Int)) : (zt l).py.depth ≤ 2 := by
  rw [zt_py]
  simp only [PyData.depth]
  have := depth_map (fun a => (zl a).py) 1 l fun a _ => zl_depth a
  omega
theorem zt_eqv (l m : List (List Int)) : PyData.eqv (zt l).py (zt m).py = decide (l = m) := by
  rw [zt_py, zt_py]
  simp only [PyData.eqv]
  exact eqv_map _ zl_eqv l m
theorem shaped_of {d : D} (h : d.py.canLay0 = true) {n : Nat} (k : d.py.depth ≤ n) (z : n ≤ 64) : SeqAt.shaped d.py = true := by
  unfold SeqAt.shaped
  rw [h]
  simp
  omega
theorem dEqB_zl (l m : List Int) : dEqB (zl l) (zl m) = some (decide (l = m)) := by
  unfold dEqB
  rw [shaped_of (zl_can l) (zl_depth l) (by decide), shaped_of (zl_can m) (zl_depth m) (by decide), zl_eqv]
  rfl
theorem dEqB_zt (l m : List (List Int)) : dEqB (zt l) (zt m) = some (decide (l = m)) := by
  unfold dEqB
  rw [shaped_of (zt_can l) (zt_depth l) (by decide), shaped_of (zt_can m) (zt_depth m) (by decide), zt_eqv]
  rfl
@[simp] theorem dEq_zl (l m : List Int) : dEq (zl l) (zl m) = some (.bl (decide (l = m))) := by unfold dEq; rw [dEqB_zl]; rfl
@[simp] theorem dNe_zl (l m : List Int) : dNe (zl l) (zl m) = some (.bl (!decide (l = m))) := by unfold dNe; rw [dEqB_zl]; rfl
@[simp] theorem dEq_zt (l m : List (List Int)) : dEq (zt l) (zt m) = some (.bl (decide (l = m))) := by unfold dEq; rw [dEqB_zt]; rfl
@[simp] theorem dNe_zt (l m : List (List Int)) : dNe (zt l) (zt m) = some (.bl (!decide (l = m))) := by unfold dNe; rw [dEqB_zt]; rfl
@[simp] theorem dEq_zt0 (l : List (List Int)) : dEq (zt l) (.lst []) = some (.bl (decide (l = []))) := dEq_zt l []
@[simp] theorem dNe_zt0 (l : List (List Int)) : dNe (zt l) (.lst []) = some (.bl (!decide (l = []))) := dNe_zt l []
@[simp] theorem dEq_int (i j : Int) : dEq (.int i) (.int j) = some (.bl (decide (i = j))) := by
  have h : PyData.eqv (D.int i).py (D.int j).py = decide (i = j) := by
    simp only [D.py, PyData.eqv]
    by_cases h : i = j <;> simp [h]
  unfold dEq dEqB
  rw [h]
  rfl
@[simp] theorem dNe_int (i j : Int) : dNe (.int i) (.int j) = some (.bl (!decide (i = j))) := by
  have h : PyData.eqv (D.int i).py (D.int j).py = decide (i = j) := by
    simp only [D.py, PyData.eqv]
    by_cases h : i = j <;> simp [h]
  unfold dNe dEqB
  rw [h]
  rfl
/-! ### items -/
theorem atI_of {α : Type} {l : List α} {i : Nat} {a : α} (h : l[i]? = some a) : atI l (i : Int) = some a := by
  have hi := (List.getElem?_eq_some_iff.mp h).1
  unfold atI ixN
  rw [if_pos (Int.natCast_nonneg i), if_pos (by omega)]
  simpa using h
theorem ixN_of {n : Nat} {i : Int} (h0 : 0 ≤ i) (h : i < n) : ixN n i = some i.toNat := by
  unfold ixN
  rw [if_pos h0, if_pos h]
theorem dIx_zl {l : List Int} {i : Int} {a : Int} (h0 : 0 ≤ i) (h : l[i.toNat]? = some a) : dIx (zl l) (.int i) = some (.int a) := by
  have : ((l.map D.int))[i.toNat]? = some (.int a) := by rw [List.getElem?_map, h]; rfl
  have := atI_of this
  rw [Int.toNat_of_nonneg h0] at this
  exact this
theorem dIx_zt {l : List (List Int)} {i : Int} {a : List Int} (h0 : 0 ≤ i) (h : l[i.toNat]? = some a) : dIx (zt l) (.int i) = some (zl a) := by
  have : ((l.map zl))[i.toNat]? = some (zl a) := by rw [List.getElem?_map, h]; rfl
  have := atI_of this
  rw [Int.toNat_of_nonneg h0] at this
  exact this
@[simp] theorem dLen_zl (l : List Int) : dLen (zl l) = some (.int l.length) := by simp [dLen, zl]
@[simp] theorem dLen_zt (l : List (List Int)) : dLen (zt l) = some (.int l.length) := by simp [dLen, zt]
@[simp] theorem bItems_zl (l : List Int) (e : Env) : bItems (zl l) e = some (.ok (l.map .int), e) := rfl
@[simp] theorem bItems_zt (l : List (List Int)) (e : Env) : bItems (zt l) e = some (.ok (l.map zl), e) := rfl
theorem flat_map (l : List Int) : D.flat (l.map D.int) = true := by
  induction l with
  | nil => rfl
  | cons a l ih => simp_all [D.flat, D.scal]
@[simp] theorem bScalL_int (l : List Int) (e : Env) : bScalL (l.map .int) e = some (.ok (l.map .int), e) := by
  unfold bScalL
  rw [flat_map]
  rfl
/-! ### rules for rewriting: one step each, arguments first -/
section
variable (x0 : Option D) (e0 e : Env) (i : Nat) (d : D)
@[simp] theorem x_eVar : eVar i (x0 :: e0) = match (x0 :: e0)[i]? with | some (some d) => some (.ok d, (x0 :: e0)) | _ => none := rfl
@[simp] theorem x_eC : eC d (x0 :: e0) = some (.ok d, (x0 :: e0)) := rfl
@[simp] theorem x_eScal (ev : Ev) : eScal ev (x0 :: e0) = bindM (ev (x0 :: e0)) bScal := rfl
@[simp] theorem bScal_int (i : Int) : bScal (.int i) e = some (.ok (.int i), e) := rfl
@[simp] theorem bScal_bl (i : Bool) : bScal (.bl i) e = some (.ok (.bl i), e) := rfl
@[simp] theorem bScal_non : bScal .non e = some (.ok .non, e) := rfl
@[simp] theorem x_eOp1 (f : D → Option D) (a : Ev) : eOp1 f a (x0 :: e0) = bindM (a (x0 :: e0)) fun x e => bO (f x) e := rfl
@[simp] theorem x_eOp2 (f : D → D → Option D) (a b : Ev) : eOp2 f a b (x0 :: e0) = bindM (a (x0 :: e0)) fun x e1 => bindM (b e1) fun y e2 => bO (f x y) e2 := rfl
@[simp] theorem x_tvB (a : Ev) : tvB a (x0 :: e0) = bindM (a (x0 :: e0)) bB := rfl
@[simp] theorem x_tvTru (a : Ev) : tvTru a (x0 :: e0) = bindM (a (x0 :: e0)) fun d e => bOB d.tru e := rfl
@[simp] theorem x_tvNot (a : Tv) : tvNot a (x0 :: e0) = bindM (a (x0 :: e0)) fun b e => some (.ok (!b), e) := rfl
@[simp] theorem x_tvAnd (a b : Tv) : tvAnd a b (x0 :: e0) = bindM (a (x0 :: e0)) fun c e => cIf c (b e) (some (.ok false, e)) := rfl
@[simp] theorem x_tvOr (a b : Tv) : tvOr a b (x0 :: e0) = bindM (a (x0 :: e0)) fun c e => cIf c (some (.ok true, e)) (b e) := rfl
@[simp] theorem x_tvYes : tvYes (x0 :: e0) = some (.ok true, (x0 :: e0)) := rfl
@[simp] theorem x_eAnd (a b : Ev) : eAnd a b (x0 :: e0) = bindM (tvB a (x0 :: e0)) fun c e => cIf c (bindM (b e) bOBl) (some (.ok (.bl false), e)) := rfl
@[simp] theorem x_eOr (a b : Ev) : eOr a b (x0 :: e0) = bindM (tvB a (x0 :: e0)) fun c e => cIf c (some (.ok (.bl true), e)) (bindM (b e) bOBl) := rfl
@[simp] theorem x_eNot (a : Ev) : eNot a (x0 :: e0) = bindM (tvB a (x0 :: e0)) fun b e => some (.ok (.bl (!b)), e) := rfl
@[simp] theorem x_eIf (t : Tv) (a b : Ev) : eIf t a b (x0 :: e0) = bindM (t (x0 :: e0)) fun c e => cIf c (a e) (b e) := rfl
@[simp] theorem x_eChain (f g : D → D → Option D) (a b c : Ev) : eChain f g a b c (x0 :: e0) = bindM (a (x0 :: e0)) fun x e1 => bindM (b e1) fun y e2 => bindM (bO (f x y) e2) fun c' e3 => bindM (bB c' e3) fun k e3 => cIf k (bindM (c e3) fun z e4 => bindM (bO (g y z) e4) bOBl) (some (.ok (.bl false), e3)) := rfl
@[simp] theorem x_aNil : aNil (x0 :: e0) = some (.ok [], (x0 :: e0)) := rfl
@[simp] theorem x_aCons (a : Ev) (r : Env → Res (List D)) : aCons a r (x0 :: e0) = bindM (a (x0 :: e0)) fun d e => bindM (r e) fun ds e2 => some (.ok (d :: ds), e2) := rfl
@[simp] theorem x_aIo (r : Env → Res (List D)) : aIo i r (x0 :: e0) = match (x0 :: e0)[i]? with | some (some _) => r (x0 :: e0) | _ => none := rfl
@[simp] theorem x_eLst (r : Env → Res (List D)) : eLst r (x0 :: e0) = bindM (r (x0 :: e0)) fun ds e => some (.ok (.lst ds), e) := rfl
@[simp] theorem x_eTup (r : Env → Res (List D)) : eTup r (x0 :: e0) = bindM (r (x0 :: e0)) fun ds e => some (.ok (.tup ds), e) := rfl
@[simp] theorem x_eTake : eTake i (x0 :: e0) = match (x0 :: e0)[i]? with | some (some d) => some (.ok d, (x0 :: e0).set i none) | _ => none := rfl
@[simp] theorem x_eCall (f : Fm) (ks : List (Option Nat)) (r : Env → Res (List D)) : eCall f ks r (x0 :: e0) = bindM (r (x0 :: e0)) (bCall f ks) := rfl
@[simp] theorem x_eCallM (f : List D → Option D) (a : Ev) (r : Env → Res (List D)) : eCallM f a r (x0 :: e0) = bindM (a (x0 :: e0)) fun d e => bindM (r e) fun ds e2 => bCallM f d ds e2 := rfl
@[simp] theorem x_sSeq (a b : Sv) : sSeq a b (x0 :: e0) = bindM (a (x0 :: e0)) (bSeq b) := rfl
@[simp] theorem x_sNil : sNil (x0 :: e0) = some (.ok .nx, (x0 :: e0)) := rfl
@[simp] theorem x_sNo : sNo (x0 :: e0) = none := rfl
@[simp] theorem x_sBreak : sBreak (x0 :: e0) = some (.ok .bk, (x0 :: e0)) := rfl
@[simp] theorem x_sCont : sCont (x0 :: e0) = some (.ok .ct, (x0 :: e0)) := rfl
@[simp] theorem x_sSet (a : Ev) : sSet i a (x0 :: e0) = bindM (a (x0 :: e0)) fun d e => some (.ok .nx, e.set i (some d)) := rfl
@[simp] theorem x_sIf (t : Tv) (a b : Sv) : sIf t a b (x0 :: e0) = bindM (t (x0 :: e0)) fun c e => cIf c (a e) (b e) := rfl
@[simp] theorem x_sRet (a : Ev) : sRet a (x0 :: e0) = bindM (a (x0 :: e0)) fun d e => some (.ok (.rt d), e) := rfl
@[simp] theorem x_sRetN : sRetN (x0 :: e0) = some (.ok (.rt .non), (x0 :: e0)) := rfl
@[simp] theorem x_sDrop (a : Ev) : sDrop a (x0 :: e0) = bindM (a (x0 :: e0)) fun _ e => some (.ok .nx, e) := rfl
@[simp] theorem x_sUnp (is : List Nat) (a : Ev) : sUnp is a (x0 :: e0) = bindM (a (x0 :: e0)) (bUnp is) := rfl
@[simp] theorem x_bUnp (is : List Nat) (ds : List D) : bUnp is (.tup ds) (x0 :: e0) = if ds.length = is.length then some (.ok .nx, setAll (x0 :: e0) is (ds.map some)) else none := rfl
@[simp] theorem x_sPar (i j : Nat) (r : Env → Res (List D)) : sPar i j r (x0 :: e0) = bindM (r (x0 :: e0)) fun ds e => match ds with | [a, b] => some (.ok .nx, (e.set i (some a)).set j (some b)) | _ => none := rfl
@[simp] theorem x_sPar3 (i j l : Nat) (r : Env → Res (List D)) : sPar3 i j l r (x0 :: e0) = bindM (r (x0 :: e0)) fun ds e => match ds with | [a, b, c] => some (.ok .nx, ((e.set i (some a)).set j (some b)).set l (some c)) | _ => none := rfl
@[simp] theorem x_sAug (f : D → D → Option D) (a : Ev) : sAug f i a (x0 :: e0) = bindM (eScal (eVar i) (x0 :: e0)) fun x e => bindM (a e) fun y e2 => bAug f i x y e2 := rfl
@[simp] theorem x_sFor (iv : Iv) (t : Tg) (b : Sv) : sFor iv t b (x0 :: e0) = bindM (iv (x0 :: e0)) (forL t b) := rfl
@[simp] theorem x_ivL (a : Ev) : ivL a (x0 :: e0) = bindM (a (x0 :: e0)) bItems := rfl
@[simp] theorem x_ivT (a : Ev) : ivT a (x0 :: e0) = bindM (a (x0 :: e0)) bItemsT := rfl
@[simp] theorem x_ivS (a : Iv) : ivS a (x0 :: e0) = bindM (a (x0 :: e0)) bScalL := rfl
@[simp] theorem x_ivScr (a : Ev) : ivScr a (x0 :: e0) = bindM (a (x0 :: e0)) bScr := rfl
@[simp] theorem x_ivR1 (r : Env → Res (List D)) : ivR1 r (x0 :: e0) = bindM (r (x0 :: e0)) bRng1 := rfl
@[simp] theorem x_ivR2 (r : Env → Res (List D)) : ivR2 r (x0 :: e0) = bindM (r (x0 :: e0)) bRng2 := rfl
@[simp] theorem x_ivZ (a b : Ev) : ivZ a b (x0 :: e0) = bindM (a (x0 :: e0)) fun d e => bindM (b e) fun d2 e2 => bindM (bItems d e2) fun as e3 => bindM (bItems d2 e3) fun bs e4 => some (.ok (zipD as bs), e4) := rfl
end
/-! ### operations -/
@[simp] theorem dI2_int (f : Int → Int → D) (i j : Int) : dI2 f (.int i) (.int j) = some (f i j) := rfl
@[simp] theorem dI1_int (f : Int → D) (i : Int) : dI1 f (.int i) = some (f i) := rfl
@[simp] theorem dI2c_int (c : Int → Int → Bool) (f : Int → Int → D) (i j : Int) : dI2c c f (.int i) (.int j) = if c i j then some (f i j) else none := rfl
theorem log_lt {i : Int} {n : Nat} (h : i.natAbs < 2 ^ n) (hn : 0 < n) : i.natAbs.log2 < n := by
  by_cases z : i.natAbs = 0
  · rw [z]; simpa using hn
  · exact (Nat.log2_lt z).mpr h
theorem cMul_of {i j : Int} {n m : Nat} (h : i.natAbs < 2 ^ n) (k : j.natAbs < 2 ^ m) (hn : 0 < n) (hm : 0 < m) (z : n + m ≤ 1000000) : cMul i j = true := by
  have := log_lt h hn
  have := log_lt k hm
  unfold cMul
  simp
  omega
theorem cDiv_of {i j : Int} {n : Nat} (h : j.natAbs < 2 ^ n) (hj : j ≠ 0) (hn : 0 < n) (z : n ≤ 9000) : cDiv i j = true := by
  have := log_lt h hn
  unfold cDiv
  simp [hj]
  omega
@[simp] theorem cMod_of (i j : Int) : cMod i j = decide (j ≠ 0) := rfl
@[simp] theorem dInt_int (i : Int) : dInt (.int i) = some (.int i) := rfl
@[simp] theorem dInt_bl (i : Bool) : dInt (.bl i) = some (.int (if i then 1 else 0)) := rfl
@[simp] theorem dAbs_int (i : Int) : dAbs (.int i) = some (.int (if i < 0 then -i else i)) := rfl
@[simp] theorem dMax_int (i j : Int) : dMax2 (.int i) (.int j) = some (.int (if j > i then j else i)) := rfl
@[simp] theorem dMin_int (i j : Int) : dMin2 (.int i) (.int j) = some (.int (if j < i then j else i)) := rfl
@[simp] theorem dSum_zl (l : List Int) : dSum (zl l) = some (.int l.sum) := by
  unfold dSum D.intL zl
  simp
@[simp] theorem tru_int (i : Int) : D.tru (.int i) = some (i != 0) := rfl
@[simp] theorem tru_bl (i : Bool) : D.tru (.bl i) = some i := rfl
@[simp] theorem tru_non : D.tru .non = some false := rfl
def bl (l : List Bool) : D := .lst (l.map .bl)
@[simp] theorem dAll_bl (l : List Bool) : dAll (bl l) = some (.bl (l.all id)) := by
  unfold dAll D.blL bl
  simp
@[simp] theorem dAny_bl (l : List Bool) : dAny (bl l) = some (.bl (l.any id)) := by
  unfold dAny D.blL bl
  simp
@[simp] theorem isi_int_int (i : Int) : dIsi "int" (.int i) = some (.bl true) := rfl
@[simp] theorem isi_int_bool (i : Int) : dIsi "bool" (.int i) = some (.bl false) := rfl
@[simp] theorem isi_zl (l : List Int) : dIsi "list" (zl l) = some (.bl true) := rfl
@[simp] theorem isi_zt (l : List (List Int)) : dIsi "list" (zt l) = some (.bl true) := rfl
/-! ### changes -/
def dSet : D → D → D → Option D
  | .lst ds, .int j, d => match ixN ds.length j with
    | some n => some (.lst (ds.set n d))
    | none => none
  | _, _, _ => none
def dApp : D → D → Option D
  | .lst ds, d => if ds.length < 16777216 then some (.lst (ds ++ [d])) else none
  | _, _ => none
def putD (i : Nat) (e : Env) : Option D → Res Out
  | some y => some (.ok .nx, e.set i (some y))
  | none => none
@[simp] theorem putD_some (i : Nat) (e : Env) (y : D) : putD i e (some y) = some (.ok .nx, e.set i (some y)) := rfl
@[simp] theorem x_bSetIx (x0 : Option D) (e0 : Env) (i : Nat) (d k : D) : bSetIx i d k (x0 :: e0) = match (x0 :: e0)[i]? with | some (some x) => putD i (x0 :: e0) (dSet x k d) | _ => none := by
  unfold bSetIx lstAt
  cases h : (x0 :: e0)[i]? with
  | none => rfl
  | some y =>
    cases y with
    | none => rfl
    | some x =>
      cases x <;> try rfl
      rename_i l
      cases k <;> try rfl
      rename_i j
      simp only [dSet]
      cases ixN l.length j <;> rfl
@[simp] theorem x_bApp (x0 : Option D) (e0 : Env) (i : Nat) (d : D) : bApp i d (x0 :: e0) = match (x0 :: e0)[i]? with | some (some x) => putD i (x0 :: e0) (dApp x d) | _ => none := by
  unfold bApp lstAt
  cases h : (x0 :: e0)[i]? with
  | none => rfl
  | some y =>
    cases y with
    | none => rfl
    | some x =>
      cases x <;> try rfl
      rename_i l
      simp only [dApp]
      split <;> rfl
def isL : D → Bool
  | .lst _ => true
  | _ => false
@[simp] theorem isL_zl (l : List Int) : isL (zl l) = true := rfl
@[simp] theorem isL_zt (l : List (List Int)) : isL (zt l) = true := rfl
@[simp] theorem isL_lst (l : List D) : isL (.lst l) = true := rfl
theorem lst_b (x0 : Option D) (e0 : Env) (i : Nat) {α : Type} (a : α) : (match lstAt i (x0 :: e0) with | some _ => some a | none => none) = match (x0 :: e0)[i]? with | some (some x) => (if isL x then some a else none) | _ => none := by
  unfold lstAt
  cases h : (x0 :: e0)[i]? with
  | none => rfl
  | some y =>
    cases y with
    | none => rfl
    | some x => cases x <;> rfl
def ifL {α : Type} (i : Nat) (e : Env) (r : Res α) : Res α := match lstAt i e with
  | some _ => r
  | none => none
@[simp] theorem x_ifL {α : Type} (x0 : Option D) (e0 : Env) (i : Nat) (r : Res α) : ifL i (x0 :: e0) r = match (x0 :: e0)[i]? with | some (some x) => (if isL x then r else none) | _ => none := by
  unfold ifL lstAt
  cases h : (x0 :: e0)[i]? with
  | none => rfl
  | some y =>
    cases y with
    | none => rfl
    | some x => cases x <;> rfl
@[simp] theorem x_sSetIx (x0 : Option D) (e0 : Env) (i : Nat) (a k : Ev) : sSetIx i a k (x0 :: e0) = bindM (a (x0 :: e0)) fun d e => ifL i e (bindM (k e) fun k e2 => bSetIx i d k e2) := rfl
@[simp] theorem x_sApp (x0 : Option D) (e0 : Env) (i : Nat) (a : Ev) : sApp i a (x0 :: e0) = ifL i (x0 :: e0) (bindM (a (x0 :: e0)) (bApp i)) := rfl
@[simp] theorem dSet_zl {l : List Int} {j v : Int} (h0 : 0 ≤ j) (h : j < l.length) : dSet (zl l) (.int j) (.int v) = some (zl (l.set j.toNat v)) := by
  unfold zl dSet
  simp only [List.length_map]
  rw [ixN_of h0 h]
  simp
@[simp] theorem dApp_zl {l : List Int} {v : Int} (h : l.length < 16777216) : dApp (zl l) (.int v) = some (zl (l ++ [v])) := by
  unfold zl dApp
  simp [h]
@[simp] theorem dApp_zt {l : List (List Int)} {v : List Int} (h : l.length < 16777216) : dApp (zt l) (zl v) = some (zt (l ++ [v])) := by
  unfold zt dApp
  simp [h]
@[simp] theorem dCat_zl {l m : List Int} (h : l.length + m.length ≤ 16777216) : dCatS (zl l) (zl m) = some (zl (l ++ m)) := by
  unfold zl dCatS
  simp [flat_map, h]
/-- a list of written ints -/
theorem zl_1 (a : Int) : D.lst [.int a] = zl [a] := rfl
theorem zl_2 (a b : Int) : D.lst [.int a, .int b] = zl [a, b] := rfl
theorem fm_rt {ks : List Bool} {n : Nat} {sv : Sv} {ds : List D} {d : D} {e : Env} {l : List D} (h : sv (env0 ds n) = some (.ok (.rt d), e)) (h2 : outIO e (ioIx 0 ks) = some l) : fmOf ks n sv ds = some (.ok d, l) := by
  unfold fmOf
  rw [h]
  simp only
  rw [h2]
  rfl
theorem fm_nx {ks : List Bool} {n : Nat} {sv : Sv} {ds : List D} {e : Env} {l : List D} (h : sv (env0 ds n) = some (.ok .nx, e)) (h2 : outIO e (ioIx 0 ks) = some l) : fmOf ks n sv ds = some (.ok .non, l) := by
  unfold fmOf
  rw [h]
  simp only
  rw [h2]
  rfl
end VL
/-! V17: loops and comprehensions of mirrors, plainly. -/
namespace VL
open PySem PySem.Spec L2
theorem forL_inv {t : Tg} {b : Sv} {P : List D → Env → Prop} {R : Env → Prop} (h0 : ∀ e, P [] e → R e)
    (h1 : ∀ d ds e, P (d :: ds) e → ∃ e1 e2, t.d d e = some e1 ∧ ((b e1 = some (.ok .nx, e2) ∧ P ds e2) ∨ (b e1 = some (.ok .bk, e2) ∧ R e2))) : ∀ ds e, P ds e → ∃ e', forL t b ds e = some (.ok .nx, e') ∧ R e'
  | [], e, h => ⟨e, rfl, h0 e h⟩
  | d :: ds, e, h => by
    obtain ⟨e1, e2, a, h⟩ := h1 d ds e h
    rcases h with ⟨b1, p⟩ | ⟨b1, p⟩
    · obtain ⟨e', q, r⟩ := forL_inv h0 h1 ds e2 p
      refine ⟨e', ?_, r⟩
      unfold forL
      rw [a]
      simp only [b1, bindM_ok, loopK_nx]
      exact q
    · refine ⟨e2, ?_, p⟩
      unfold forL
      rw [a]
      simp only [b1, bindM_ok, loopK_bk]
/-- a loop whose turns keep P and nothing else happens -/
theorem forL_map {α : Type} {t : Tg} {b : Sv} {f : α → D} {P : List α → Env → Prop} {R : Env → Prop} (h0 : ∀ e, P [] e → R e)
    (h1 : ∀ x xs e, P (x :: xs) e → ∃ e1 e2, t.d (f x) e = some e1 ∧ ((b e1 = some (.ok .nx, e2) ∧ P xs e2) ∨ (b e1 = some (.ok .bk, e2) ∧ R e2))) (xs : List α) (e : Env) (h : P xs e) : ∃ e', forL t b (xs.map f) e = some (.ok .nx, e') ∧ R e' :=
  forL_inv (P := fun ds e => ∃ xs, ds = xs.map f ∧ P xs e) (fun e ⟨xs, q, p⟩ => by
    cases xs with
    | nil => exact h0 e p
    | cons => cases q) (fun d ds e ⟨xs, q, p⟩ => by
    cases xs with
    | nil => cases q
    | cons x xs =>
      simp only [List.map_cons, List.cons.injEq] at q
      obtain ⟨rfl, rfl⟩ := q
      obtain ⟨e1, e2, a, h⟩ := h1 x xs e p
      exact ⟨e1, e2, a, h.imp (fun ⟨u, v⟩ => ⟨u, xs, rfl, v⟩) id⟩) _ e ⟨xs, rfl, h⟩
/-- n turns of a range -/
theorem forL_range {t : Tg} {b : Sv} {lo : Int} {n : Nat} {P : Nat → Env → Prop} {R : Env → Prop} (h0 : ∀ e, P n e → R e)
    (h1 : ∀ k e, k < n → P k e → ∃ e1 e2, t.d (.int (lo + k)) e = some e1 ∧ ((b e1 = some (.ok .nx, e2) ∧ P (k + 1) e2) ∨ (b e1 = some (.ok .bk, e2) ∧ R e2))) (e : Env) (h : P 0 e) : ∃ e', forL t b (rangeD lo n) e = some (.ok .nx, e') ∧ R e' := by
  unfold rangeD
  have A : ∀ e, (∃ k, ([] : List Nat) = (List.range n).drop k ∧ k ≤ n ∧ P k e) → R e := fun e h => by
    obtain ⟨k, q, z, p⟩ := h
    have := congrArg List.length q
    simp at this
    have : k = n := by omega
    exact h0 e (this ▸ p)
  have B : ∀ x xs e, (∃ k, x :: xs = (List.range n).drop k ∧ k ≤ n ∧ P k e) → ∃ e1 e2, t.d (.int (lo + (x : Nat))) e = some e1 ∧ ((b e1 = some (.ok .nx, e2) ∧ ∃ k, xs = (List.range n).drop k ∧ k ≤ n ∧ P k e2) ∨ (b e1 = some (.ok .bk, e2) ∧ R e2)) := fun x xs e h => by
    obtain ⟨k, q, z, p⟩ := h
    have hk : k < n := by
      have := congrArg List.length q
      simp at this
      omega
    have hd : (List.range n).drop k = k :: (List.range n).drop (k + 1) := by
      rw [List.drop_eq_getElem_cons (by simpa using hk)]
      simp
    rw [hd] at q
    simp only [List.cons.injEq] at q
    obtain ⟨rfl, rfl⟩ := q
    obtain ⟨e1, e2, a, h⟩ := h1 x e hk p
    exact ⟨e1, e2, a, h.imp (fun ⟨u, v⟩ => ⟨u, x + 1, rfl, hk, v⟩) id⟩
  exact forL_map (P := fun xs e => ∃ k, xs = (List.range n).drop k ∧ k ≤ n ∧ P k e) A B (List.range n) e ⟨0, rfl, Nat.zero_le _, h⟩
theorem lcA_map {α : Type} {t : Tg} {ev : Ev} {vs : List Nat} {f g : α → D} {env : Env} : ∀ (xs : List α) (acc : List D), (∀ x ∈ xs, ∃ e1 e2, t.d (f x) env = some e1 ∧ ev e1 = some (.ok (g x), e2) ∧ tvYes e1 = some (.ok true, e1) ∧ clr vs e2 = env) → lcA t tvYes ev vs (xs.map f) acc env = some (.ok (.lst (acc ++ xs.map g)), env)
  | [], acc, _ => by simp [lcA]
  | x :: xs, acc, h => by
    obtain ⟨e1, e2, a, b, y, c⟩ := h x (by simp)
    simp only [List.map_cons, lcA, a, y, bindM_ok, cIf_t, b, c]
    rw [lcA_map xs (acc ++ [g x]) fun z hz => h z (by simp [hz])]
    simp
theorem eLc_map {α : Type} {iv : Iv} {t : Tg} {ev : Ev} {vs : List Nat} {f g : α → D} {env env0 : Env} (xs : List α) (hi : iv env0 = some (.ok (xs.map f), env)) (hv : vsNone vs env = true) (h : ∀ x ∈ xs, ∃ e1 e2, t.d (f x) env = some e1 ∧ ev e1 = some (.ok (g x), e2) ∧ clr vs e2 = env) : eLc iv t tvYes ev vs env0 = some (.ok (.lst (xs.map g)), env) := by
  unfold eLc
  rw [hi]
  simp only [bindM_ok, hv, if_true]
  have := lcA_map (t := t) (ev := ev) (vs := vs) xs [] (fun x hx => by
    obtain ⟨e1, e2, a, b, c⟩ := h x hx
    exact ⟨e1, e2, a, b, rfl, c⟩)
  simpa using this
/-- a comprehension that changes what stands around it -/
theorem lcA_inv {α : Type} {t : Tg} {ev : Ev} {vs : List Nat} {f : α → D} {P : List α → List D → Env → Prop} {R : List D → Env → Prop} (h0 : ∀ acc e, P [] acc e → R acc e)
    (h1 : ∀ x xs acc e, P (x :: xs) acc e → ∃ e1 y e2, t.d (f x) e = some e1 ∧ ev e1 = some (.ok y, e2) ∧ P xs (acc ++ [y]) (clr vs e2)) : ∀ (xs : List α) (acc : List D) (e : Env), P xs acc e → ∃ acc' e', lcA t tvYes ev vs (xs.map f) acc e = some (.ok (.lst acc'), e') ∧ R acc' e'
  | [], acc, e, h => ⟨acc, e, rfl, h0 acc e h⟩
  | x :: xs, acc, e, h => by
    obtain ⟨e1, y, e2, a, b, p⟩ := h1 x xs acc e h
    obtain ⟨acc', e', q, r⟩ := lcA_inv h0 h1 xs (acc ++ [y]) _ p
    refine ⟨acc', e', ?_, r⟩
    have ty : tvYes e1 = some (.ok true, e1) := rfl
    simp only [List.map_cons, lcA, a, ty, bindM_ok, cIf_t, b]
    exact q
theorem eLc_inv {α : Type} {iv : Iv} {t : Tg} {ev : Ev} {vs : List Nat} {f : α → D} {env env0 : Env} {P : List α → List D → Env → Prop} {R : List D → Env → Prop} (xs : List α) (hi : iv env0 = some (.ok (xs.map f), env)) (hv : vsNone vs env = true) (h0 : ∀ acc e, P [] acc e → R acc e)
    (h1 : ∀ x xs acc e, P (x :: xs) acc e → ∃ e1 y e2, t.d (f x) e = some e1 ∧ ev e1 = some (.ok y, e2) ∧ P xs (acc ++ [y]) (clr vs e2)) (hP : P xs [] env) : ∃ acc' e', eLc iv t tvYes ev vs env0 = some (.ok (.lst acc'), e') ∧ R acc' e' := by
  unfold eLc
  rw [hi]
  simp only [bindM_ok, hv, if_true]
  exact lcA_inv h0 h1 xs [] env hP
theorem zipD_map {α β : Type} (f : α → D) (g : β → D) : ∀ (l : List α) (m : List β), zipD (l.map f) (m.map g) = (l.zip m).map fun p => D.tup [f p.1, g p.2]
  | [], _ => rfl
  | _ :: _, [] => rfl
  | a :: l, b :: m => by
    have := zipD_map f g l m
    unfold zipD at this ⊢
    simp [this]
@[simp] theorem td_nm (i : Nat) (d : D) (x0 : Option D) (e0 : Env) : Tg.d (.nm i) d (x0 :: e0) = some ((x0 :: e0).set i (some d)) := rfl
@[simp] theorem td_tp (is : List Nat) (ds : List D) (x0 : Option D) (e0 : Env) : Tg.d (.tp is) (.tup ds) (x0 :: e0) = if ds.length = is.length then some (setAll (x0 :: e0) is (ds.map some)) else none := rfl
theorem seq_nx {a b : Sv} {e e1 : Env} (h : a e = some (.ok .nx, e1)) : sSeq a b e = b e1 := by
  unfold sSeq
  rw [h]
  rfl
theorem seq_rt {a b : Sv} {e e1 : Env} {d : D} (h : a e = some (.ok (.rt d), e1)) : sSeq a b e = some (.ok (.rt d), e1) := by
  unfold sSeq
  rw [h]
  rfl
theorem rng1 {j : Int} {e : Env} (h0 : -1000000000000 ≤ j) (h : j ≤ 16777216) : bRng1 [.int j] e = some (.ok (rangeD 0 j.toNat), e) := by
  unfold bRng1
  simp [h0, h]
theorem rng2 {i j : Int} {e : Env} (h1 : j ≤ 1000000000000) (h2 : -1000000000000 ≤ j) (h3 : i ≤ 1000000000000) (h4 : -1000000000000 ≤ i) (h5 : j - i ≤ 16777216) : bRng2 [.int i, .int j] e = some (.ok (rangeD i (j - i).toNat), e) := by
  have h : (decide (j ≤ 1000000000000) && decide (-1000000000000 ≤ j) && decide (i ≤ 1000000000000) && decide (-1000000000000 ≤ i) && decide (j - i ≤ 16777216)) = true := by
    simp only [Bool.and_eq_true, decide_eq_true_eq]
    exact ⟨⟨⟨⟨h1, h2⟩, h3⟩, h4⟩, h5⟩
  show (if (decide (j ≤ 1000000000000) && decide (-1000000000000 ≤ j) && decide (i ≤ 1000000000000) && decide (-1000000000000 ≤ i) && decide (j - i ≤ 16777216)) = true then some (Rs.ok (rangeD i (j - i).toNat), e) else none) = _
  rw [if_pos h]
theorem bCall_of {f : Fm} {ks : List (Option Nat)} {ds as : List D} {e e' : Env} {d : D} {ios : List D} (h1 : fillIO e ks ds = some as) (h2 : f as = some (.ok d, ios)) (h3 : putIO e ks ios = some e') : bCall f ks ds e = some (.ok d, e') := by
  unfold bCall
  rw [h1]
  simp only
  rw [h2]
  simp only
  rw [h3]
end VL
/-! E1: an own exception under an own class under Exception, its __init__ says super().__init__(f); self.f = f. -/
namespace EG
open PySem PySem.W PySem.Calls PyProof.Rows PySem.HandSPX Builtin Builtin.ObjectAttr
def iA (f : Str) (p1 p2 : Pos) : Arguments :=
  { posonlyargs := [], args := [⟨"self", none, p1⟩, ⟨f, none, p2⟩], vararg := none, kwonlyargs := [], kw_defaults := [], kwarg := none, defaults := [] }
def iB (f : Str) (q1 q2 q3 q4 q5 q6 r1 r2 r3 r4 : Pos) : List Stmt :=
  [.Expr (.Call (.Attribute (.Call (.Name "super" q1) [] [] q2) "__init__" q3) [.Name f q4] [] q5) q6, .Assign [.Attribute (.Name "self" r1) f r2] (.Name f r3) r4]
def iS (f : Str) : Scope :=
  { kind := .function, names := [(Str.ofString "self", .local), (f, .local), (Str.ofString "__class__", .free), (Str.ofString "super", .globalImplicit)], isGenerator := false, isCoroutine := false, more := [] }
/-- the chain above the class at C -/
abbrev up (G : Addr) : List Value := .ref G :: ESX.exTail
structure GTxt (prog : Program) (K : Frag) (mg : Str → Option Value) (f x : Str) (C G fI : Addr) : Prop where
  gC : mg x = some (.ref C)
  cls : ∃ nm q N bs sn sub ab col dd k0 k1 k2 k3 k5, K.lookup C = some (excClassObj nm q C N bs (up G) true sn sub ab col dd k0 k1 k2 k3 k5 "Exception.__new__")
  sa : findIn K (.ref C) "__setattr__" = some (some (.builtin "object.__setattr__"))
  noN : findIn K (.ref C) f = some none
  iC : findIn K (.ref C) "__init__" = some (some (.ref fI))
  tC : typeIn K (.ref fI) = some (.type "function")
  kC : keepIn K (.ref C) = true
  exC : subIn K (.ref C) (.type "BaseException") = some true
  tyC : typeIn K (.ref C) = some (.type "type")
  al : alongIn K "__init__" (up G) = some (some (.builtin "Exception.__init__"))
  fn : ∃ (qual : Str) (oc : Value) (od : Option Addr) (doc pm : Value) (an : Option Addr) (cda cc : Addr) (ct : Value) (osl : Array (Option Value)) (p1 p2 q1 q2 q3 q4 q5 q6 r1 r2 r3 r4 : Pos),
    K.lookup fI = some ⟨oc, od, .func (ksFn "__init__" qual (iA f p1 p2) (iB f q1 q2 q3 q4 q5 q6 r1 r2 r3 r4) (iS f) .none .none doc pm an (.ref cda) ct cc), osl⟩ ∧ codeIn K (.ref cda) qual = true ∧
    (∃ pl : Env → Sem Bool, ∀ env : Env, eval (.Call (.Attribute (.Call (.Name "super" q1) [] [] q2) "__init__" q3) [.Name f q4] [] q5) env = (do
      let ov ← attributeBase (.Call (.Name "super" q1) [] [] q2) "__init__" env (eval (.Call (.Name "super" q1) [] [] q2) env)
      standAt q3.atName
      let (m, first) ← holding [ov] (getMethod ov "__init__" (pl env))
      callWith q5 m first (backTo q5 (starEach [.Name f q4] env)) [])) ∧
    (∃ ccl cdd vs ccs file tf, K.lookup cda = some ⟨ccl, cdd, .fields vs, ccs⟩ ∧ vs[2]? = some (.str file tf) ∧ ((prog.main.file : Str) == file) = true) ∧ ∃ cl cld csl, K.lookup cc = some ⟨cl, cld, .cell (some (.ref C)), csl⟩
  sup : mg "super" = none
  top : (prog.main.scope.names.lookup ("super" : Str)).isSome = false
  opq : nsIn K cStatics "thirdparty.any" = some none
/-- the name f is none of the others -/
structure FOk (f : Str) : Prop where
  n1 : (f == ("self" : Str)) = false
  n2 : (iS f).names.lookup f = some .local
  n3 : (f == ("__debug__" : Str)) = false
  n4 : (iS f).names.lookup (Str.ofString "__class__") = some .free
  n5 : (iS f).names.lookup (Str.ofString "super") = some .globalImplicit
  n6 : (Str.ofString "self" == f) = false
  n7 : (iS f).names.lookup (Str.ofString "self") = some .local
  bind : ∀ (qual : Str) (doc pm : Value) (an : Option Addr) (cd ct : Value) (cc : Addr) (p1 p2 : Pos) (body : List Stmt) (x v : Value), bindArgs (ksFn "__init__" qual (iA f p1 p2) body (iS f) .none .none doc pm an cd ct cc) ⟨[x, v], []⟩ = pure [(Str.ofString "self", x), (f, v)]
structure InitEnd (h h' : Heap) (x C dx : Addr) (f : Str) (v : Value) : Prop where
  keep : ∀ b o, b ≠ x → h.get? b = some o → h'.get? b = some o
  obj : ∃ t1 : Addr, h'.get? x = some { cls := .ref C, dict := some dx, data := .fields #[.ref t1, .none, .none, .none, .bool false, .none] }
  dbig : h.objs.size ≤ dx
  dne : dx ≠ x
  ns : h'.Ns1 dx (fun y => if y = f then some v else none)
section
variable {prog : Program} {w : World} {A : Around} {E : Value → Shared → Prop} {R : Result → Shared → Prop} {K : Frag} {mg : Str → Option Value} {C G fI : Addr} {f xn : Str}
variable {hp : Heap} {g : Array GenState} {d : Drawn} {t : Nat} {os : OsState}
/-- the first field of such an exception -/
theorem g_osa {tk : Tok} {v : Value} {x : Addr} {fv : Array Value} {cd : ClassData} (X : K.In hp) (hx : hp.get? x = some { cls := .ref C, data := .fields fv }) (hcd : clsIn K C = some cd) (hm : cd.mro = .ref C :: up G) (hh : cd.hasDict = true) (ha : findIn K (.ref C) f = some none)
    (hq : ∀ h' tk' dx, (∀ b o, b ≠ x → hp.get? b = some o → h'.get? b = some o) → hp.objs.size ≤ dx → dx ≠ x → h'.get? x = some { cls := .ref C, dict := some dx, data := .fields fv } → h'.Ns1 dx (fun y => if y = f then some v else none) → R (.ok (.ret .none)) ⟨h', g, d, tk', os⟩) :
    codeAny (model prog w) A (.call (.builtin "object.__setattr__") ⟨[.ref x, .str f tk, v], []⟩) R ⟨hp, g, d, t, os⟩ := by
  have In0 : InstAt hp x { cls := .ref C, data := .fields fv } C none := ⟨hx, rfl, rfl, trivial⟩
  have SFo := F.store_object
  have cont : cd.mro.contains (.type "object") = true := by
    rw [hm]
    simp only [List.contains_cons, Bool.or_eq_true]
    exact .inr (.inr (by decide +kernel))
  have emp : cd.mro.isEmpty = false := by rw [hm]; rfl
  have isob : Looks (model prog w) hp (isInstance (.ref x) (.type "object")) true := In0.type.andThen (looks_mroIn X (by
    unfold mroIn
    rw [hcd, Option.bind_some, emp, if_neg Bool.false_ne_true, cont]))
  refine codeAny_call_builtin SFo.slot.plain SFo.entry ?_
  refine @check_slot (model prog w) _ _ ⟨hp, g, d, t, os⟩ "object.__setattr__" "object" "__setattr__" (.ref x) [.str f tk, v] [] _ SFo.kind SFo.split isob (SFo.args (.ref x) (.str f tk) v) ?_
  have lmro : Looks (model prog w) hp (mroOf (.ref C)) cd.mro := (looks_clsIn X hcd).andThen .now
  have lst : Looks (model prog w) hp (storeTaker? none) none := .now
  have pass : refuseLoop (.ref x) "__setattr__" cd.mro = pure () := by
    rw [hm, refuseLoop_ref, refuseLoop_ref]
    exact F.store_Exception.passes _
  have hxs : x ≠ hp.objs.size := Nat.ne_of_lt (Heap.lt_size hx)
  have lcls : Looks (model prog w) hp (classData C) cd := looks_clsIn X hcd
  rw [osa_eq, refuse_eq]
  refine wpAny_bind (wpAny_bind (In0.type.at (wpAny_bind (lmro.at ?_))))
  rw [pass]
  refine wpAny_pure (wpAny_bind (In0.type.at (wpAny_bind (Looks.at (looks_findIn X ha) (wpAny_bind (lst.at ?_))))))
  show wpAny _ _ (storeInOwnDict (.ref x) (.ref C) (.str f tk) f v false) _ _ _
  obtain ⟨c1, c2, c3, c4, c5, c6, c7, c8, c9, c10, c11⟩ := cd
  dsimp only at hh
  subst hh
  unfold storeInOwnDict ownDictForStores
  repeat (first
    | with_reducible refine store_in_new ?_ ?_
    | with_reducible refine wpAny_loadPart_at hx ?_
    | with_reducible refine lcls.at ?_
    | wp_step)
  · have at0 := Heap.get?_push_at (h := hp) (o := { cls := .type "dict", data := .dict #[] }) rfl rfl
    exact ⟨_, #[], _, (Heap.get?_update_ne _ _ _ _ hxs.symm).trans at0,
      rfl, fun e he => absurd he (by simp), fun _ => rfl⟩
  · intro h' tk' hn' hs
    have hx1 := Heap.get?_push_of_some { cls := .type "dict", data := .dict #[] } hx
    refine hq h' tk' hp.objs.size (fun b o hb ho => ?_) (Nat.le_refl _) hxs.symm ?_ hn'
    · rw [hs.2 b (Nat.ne_of_lt (Heap.lt_size ho)), Heap.get?_update_ne _ _ _ _ hb]
      exact Heap.get?_push_of_some _ ho
    · rw [hs.2 x hxs]
      exact Heap.get?_update_self _ hx1 rfl
theorem one_fits (v : Value) : [v].length ≤ sizeLine := by
  rw [sizeLine_eq]
  exact Nat.le_trans (Nat.le_refl 1) (by decide)
theorem kept_off {h h' : Heap} {x : Addr} (X : K.In h) (hx : K.lookup x = none) (k : ∀ b o, b ≠ x → h.get? b = some o → h'.get? b = some o) : K.In h' := fun a o e => by
  refine k a o (fun z => ?_) (X a o e)
  rw [z, hx] at e
  cases e
/-- __init__ of a fresh exception at x -/
theorem g_init {s : Shared} (T : GTxt prog K mg f xn C G fI) (ok : FOk f) {x t0 : Addr} {v : Value} (X : K.In s.heap) (NG : s.heap.Ns mainGlobals mg) (NB : ∃ mb, s.heap.Ns builtinsNs mb ∧ mb "super" = some (.type "super")) (hlim : s.heap.NoLimit)
    (hx : s.heap.get? x = some (excO C t0)) (hnx : K.lookup x = none) (hroom : A.depth < recursionLimit) (hq : ∀ h' tk dx, InitEnd s.heap h' x C dx f v → R (.ok (.ret .none)) { s with heap := h', toks := tk }) :
    codeAny (model prog w) A (.call (.ref fI) ⟨[.ref x, v], []⟩) R s := by
  obtain ⟨qual, oc, od, doc, pm, an, cda, cc, ct, osl, p1, p2, q1, q2, q3, q4, q5, q6, r1, r2, r3, r4, ho, hcd, ⟨pl, hpl⟩, ⟨ccl, cdd, vs, ccs, file, tf, hcode, hvs, hfile⟩, cl, cld, csl, hcell⟩ := T.fn
  obtain ⟨nm, q, N, bs, sn, sub, ab, col, dd, k0, k1, k2, k3, k5, hC⟩ := T.cls
  obtain ⟨mb, b1, b2⟩ := NB
  have hcl : clsIn K C = some { name := nm, bases := bs, mro := .ref C :: up G, ns := N, qualname := q, hasDict := true, slotNames := sn, subclasses := sub, abstract := ab, collection := col, hasDel := false } := by
    unfold clsIn
    rw [hC] <;> rfl
  have inX : ∀ b, (Value.ref C :: up G).contains b = true → mroIn K C b = some true := fun b hb => by
    unfold mroIn
    rw [hcl, Option.bind_some, if_neg (show ¬ (List.isEmpty (Value.ref C :: up G) = true) from Bool.false_ne_true), hb]
  refine ks_codeAny_call_defAt (body := iB f q1 q2 q3 q4 q5 q6 r1 r2 r3 r4) (binds := [(Str.ofString "self", .ref x), (f, v)]) hroom (X _ _ ho) rfl hlim (codeRec_of X hcd) rfl (BindsTo.of_eq (ok.bind _ _ _ _ _ _ _ _ _ _ _ _)) (fun y hy => ?_) (fun y hy => ?_) (fun h₁ hns k => ?_) rfl rfl rfl
  · simp [ksFn, fnX, iS] at hy
    rcases hy with rfl | rfl | rfl | rfl <;> simp
  · simp at hy
    rcases hy with rfl | rfl
    · rfl
    · exact ok.n2
  have X₁ : K.In h₁ := X.keeps k
  have hx₁ := k _ _ hx
  have lself : ([(Str.ofString "self", Value.ref x), (f, v)].reverse.lookup (Str.ofString "self")) = some (.ref x) := by
    show List.lookup (Str.ofString "self") [(f, v), (Str.ofString "self", Value.ref x)] = _
    rw [List.lookup_cons, ok.n6]
    rfl
  have lf : ([(Str.ofString "self", Value.ref x), (f, v)].reverse.lookup f) = some v := by simp
  refine ks_wpAt_execs_cons (ks_wpAt_Expr_any (ks_wpAt_MethodCall (ks_wpAt_super_base (ar := ⟨"self", none, p1⟩) ok.n5 ok.n4 rfl rfl (X₁ _ _ ho) rfl rfl rfl (X₁ _ _ hcode) rfl hvs hfile T.top ?_) (hpl _)))
  refine ks_loadName_global rfl ok.n5 (loadGlobal_builtin (NG.keeps k) T.sup (b1.keeps k) b2 ⟨rfl, ?_⟩)
  refine wpAny_loadName_free rfl ok.n4 rfl ⟨_, X₁ _ _ hcell, rfl⟩ ?_
  refine wpAny_loadName_local rfl ok.n7 hns lself ?_
  have hC₁ := X₁ _ _ hC
  refine ks_wpAny_isType_cls hC₁ rfl ⟨rfl, ?_⟩
  refine ks_wpAny_call_super hC₁ rfl hx₁ rfl (fun c e => by cases e) (looks_mroIn X₁ (inX (.ref C) (by simp))) (fun h2 e2 k2 => ?_)
  have X₂ : K.In h2 := X₁.keeps k2
  have hx₂ := k2 _ _ hx₁
  have hxC : x ≠ C := fun z => by
    rw [z] at hnx
    rw [hnx] at hC
    cases hC
  have I2 : InstAt h2 x (excO C t0) C none := ⟨hx₂, rfl, rfl, trivial⟩
  refine ESX.getMethod_super e2 (looks_opaque X₂ T.opq) ((looks_clsIn X₂ hcl).andThen .now) (ESX.drop_own C (up G)) X₂ T.al hxC rfl (I2.type.andThen (looks_mroIn X₂ (inX (.type "Exception") (by
    simp only [List.contains_cons, Bool.or_eq_true]
    exact .inr (.inr (by decide +kernel)))))) ?_
  have k3 : ∀ b o, h2.get? b = some o → (h2.push (ESX.bw x)).get? b = some o := fun b o e => Heap.get?_push_of_some _ e
  have ns3 : (h2.push (ESX.bw x)).Ns s.heap.objs.size (fun y => [(Str.ofString "self", Value.ref x), (f, v)].reverse.lookup y) := (hns.keeps k2).keeps k3
  refine ESX.callWith_bound (x := x) (spliced_cons (ESX.ldL ns3 lf (spliced_nil ⟨Heap.get?_push_at rfl rfl, ?_⟩) rfl ok.n2 ok.n3))
  refine ESX.call_bw (k3 _ _ (k2 _ _ hC₁)) (k3 _ _ hx₂) (Heap.get?_push_at rfl rfl) (one_fits v) (fun h4 t1 k4 e4 => ?_)
  have X₄ : K.In h4 := kept_off (X₂.keeps k3) hnx k4
  have hL : s.heap.objs.size ≠ x := Nat.ne_of_gt (Heap.lt_size hx)
  have ns4 : h4.Ns s.heap.objs.size (fun y => [(Str.ofString "self", Value.ref x), (f, v)].reverse.lookup y) := by
    obtain ⟨oL, es, ep, l1, l2⟩ := ns3
    exact ⟨oL, es, ep, k4 _ _ hL l1, l2⟩
  refine ks_wpAt_execs_cons (wpAt_of_wpAny (plainObj_wpAny_Assign_Attribute ?_))
  refine ESX.ldL ns4 lf (ESX.ldL ns4 lself ?_ rfl ok.n7) rfl ok.n2 ok.n3
  refine set_plain X₄ (ox := excO C t1) (od := none) ⟨e4, rfl, rfl, trivial⟩ T.sa ?_
  refine g_osa X₄ e4 hcl rfl rfl T.noN (fun h5 tk5 dx k5 dn dne e5 ns5 => ?_)
  refine wpAt_of_wpAny (wpAny_execs_nil (hq h5 tk5 dx ⟨fun b o hb e => k5 b o hb (k4 b o hb (k3 b o (k2 b o (k b o e)))), ⟨t1, e5⟩, ?_, dne, ns5⟩))
  have grow : s.heap.objs.size < h4.objs.size := by
    obtain ⟨oL, es, ep, l1, l2⟩ := ns4
    exact Heap.lt_size l1
  exact Nat.le_of_lt (Nat.lt_of_lt_of_le grow dn)
end
end EG
/-! E2: such an exception made, raised, its field read. -/
namespace EG
open PySem PySem.W PySem.Calls PyProof.Rows PySem.HandSPX
structure Made (h h' : Heap) (e C d : Addr) (f : Str) (v : Value) : Prop where
  keep : ∀ b o, h.get? b = some o → h'.get? b = some o
  new : h.objs.size ≤ e
  obj : ∃ oe vs, h'.get? e = some oe ∧ oe.cls = .ref C ∧ oe.dict = some d ∧ oe.data = .fields vs ∧ vs[1]? = some .none
  dbig : h.objs.size ≤ d
  dne : d ≠ e
  ns : h'.Ns1 d (fun y => if y = f then some v else none)
theorem up_contains (G : Addr) (X : String) : (up G).contains (.type X) = ESX.exTail.contains (.type X) := by
  rw [List.contains_cons]
  rfl
section
variable {prog : Program} {w : World} {A : Around} {R : Result → Shared → Prop} {K : Frag} {mg : Str → Option Value} {C G fI : Addr} {f xn : Str}
theorem g_made {s : Shared} (T : GTxt prog K mg f xn C G fI) (ok : FOk f) {v : Value} (X : K.In s.heap) (NG : s.heap.Ns mainGlobals mg) (NB : ∃ mb, s.heap.Ns builtinsNs mb ∧ mb "super" = some (.type "super")) (hlim : s.heap.NoLimit) (hroom : A.depth + 1 < recursionLimit)
    (hq : ∀ h' tk e d, Made s.heap h' e C d f v → R (.ok (.ret (.ref e))) { s with heap := h', toks := tk }) : codeAny (model prog w) A (.call (.ref C) ⟨[v], []⟩) R s := by
  obtain ⟨nm, q, N, bs, sn, sub, ab, col, dd, k0, k1, k2, k3, k5, hC⟩ := T.cls
  obtain ⟨mb, b1, b2⟩ := NB
  obtain ⟨hp, g, dr, tk, os⟩ := s
  have k : ∀ b o, hp.get? b = some o → ((hp.push (kdv_tup [v])).push (excO C hp.objs.size)).get? b = some o := fun b o e => by
    exact Heap.get?_push_of_some _ (Heap.get?_push_of_some _ e)
  have at1 : ((hp.push (kdv_tup [v])).push (excO C hp.objs.size)).get? (hp.objs.size + 1) = some (excO C hp.objs.size) := by heap_get
  have off : K.lookup (hp.objs.size + 1) = none := by
    cases e : K.lookup (hp.objs.size + 1) with
    | none => rfl
    | some o =>
      have z : hp.get? (hp.objs.size + 1) = some o := X _ _ e
      have l : hp.objs.size + 1 < hp.objs.size := Heap.lt_size z
      omega
  refine call_own F.excBase_Exception (up_contains G) (X _ _ hC) (looks_findIn X T.iC) (fun self => bind_fn X self T.tC) (one_fits v) ?_
  refine g_init (s := ⟨(hp.push (kdv_tup [v])).push (excO C hp.objs.size), g, dr, tk, os⟩) T ok (X.keeps k) (NG.keeps k) ⟨mb, b1.keeps k, b2⟩ (hlim.keeps k) at1 off ?_ fun h' tk' dx I => ?_
  · show A.depth + 1 < recursionLimit
    exact hroom
  · obtain ⟨t1, e1⟩ := I.obj
    have big : hp.objs.size + 1 + 1 ≤ dx := by
      have q := I.dbig
      simpa only [Heap.size_push] using q
    have old : ∀ b o, hp.get? b = some o → h'.get? b = some o := fun b o e => by
      have l : b < hp.objs.size := Heap.lt_size e
      exact I.keep b o (Nat.ne_of_lt (Nat.lt_succ_of_lt l)) (k b o e)
    exact ⟨rfl, hq h' tk' (hp.objs.size + 1) dx ⟨old, Nat.le_succ _, ⟨_, _, e1, rfl, rfl, rfl, rfl⟩, (by show hp.objs.size ≤ dx; omega), I.dne, I.ns⟩⟩
end
end EG
namespace VL
open PySem PySem.Spec L2
theorem relO_one {v : V} {v' : Value} {f : Str} (r : RelV v v') (y : Str) : RelO (List.lookup y [(f, v)]) (if y = f then some v' else none) := by
  by_cases hw : y = f
  · subst hw
    rw [if_pos rfl]
    have q : List.lookup y [(y, v)] = some v := by simp [List.lookup]
    rw [q]
    exact r
  · rw [if_neg hw]
    have qw : (y == f) = false := by simpa using hw
    have q2 : List.lookup y [(f, v)] = none := by simp [List.lookup, qw]
    rw [q2]
    trivial
section
variable {X : Cx} {C G fI : Addr} {f xn : Str}
/-- C(e), to be raised -/
def tMkG (C : Addr) (f : Str) (ta : TA) : L2.St → Hp → XK → Prop := fun σ H Q => ta σ H fun vs H1 => ∃ v, vs = [v] ∧ ∀ d, H1 d = none → Q (.ref C) (some d) (upd H1 d (.xd [(f, v)]))
theorem pmk_g {a : Expr} {ta : TA} {p pos : Pos} {k : Nat} (T : EG.GTxt X.prog X.K X.mg f xn C G fI) (ok : EG.FOk f) (hr : Room k X.A) (ha : PA X [a] ta) (hg : Gl X xn) (hdb : (xn == ("__debug__" : Str)) = false := by decide)
    (he : starEach (a :: []) X.env = (false, eval a X.env) :: starEach [] X.env := by rfl) (hpl : (backTo pos (starEach [] X.env)).any (·.1) = false := by rfl) : PMk X (.Call (.Name xn p) [a] [] pos) (tMkG C f ta) := by
  intro pins s σ H Q I h
  refine wpAny_Call_Name_kw (ld_glob I hg T.gC ?_ hdb)
  refine PySem.W.callWith_K (h₀ := X.base) I.ok.mod.kin T.kC (thn (ha.run pos pins s σ H _ I h) fun us s1 hh => ?_) he hpl
  obtain ⟨vs, H1, I1, r1, v, ev, q1⟩ := hh
  subst ev
  refine ⟨I1.kIn, ?_⟩
  cases r1 with
  | cons rv rn =>
    rename_i v' us'
    cases rn
    show wpAny _ _ (call (.ref C) [v']) _ _ _
    have hlim := I1.nolimit
    obtain ⟨mb, m1, m2⟩ := I1.mod.blt
    have NG := I1.mod.glob.keeps I1.bk
    have NB := m1.keeps I1.bk
    have bs : mb "super" = some (.type "super") := (m2 "super" (by decide)).trans (by decide +kernel)
    obtain ⟨hp, g, dr, tk, os⟩ := s1
    refine wpAny_call (EG.g_made T ok I1.kIn NG ⟨mb, NB, bs⟩ hlim (by have := hr.dp; omega) fun h' tk' e d M => ?_)
    show MkP X pins σ Q (.ref e) ⟨h', g, dr, tk', os⟩
    obtain ⟨oe, fv, hoe, hc, hd, hdat, h1⟩ := M.obj
    have hns := M.ns
    obtain ⟨G', g1, g2⟩ := restrict h' fun b => decide (b ≠ e)
    have gk : ∀ b, b ≠ e → G'.get? b = h'.get? b := fun b hb => g1 b (decide_eq_true hb)
    have ge : G'.get? e = none := g2 e (by simp)
    have old : ∀ b o, hp.get? b = some o → G'.get? b = some o := fun b o q => by
      have l : b < hp.objs.size := Heap.lt_size q
      have n : hp.objs.size ≤ e := M.new
      rw [gk b (Nat.ne_of_lt (Nat.lt_of_lt_of_le l n))]
      exact M.keep b o q
    have ob : ObjOk X.prog X.w (upd H1 d (.xd [(f, v)])) G' d (.xd [(f, v)]) := ⟨_, hns.at (fun o q => (gk d M.dne).trans q), fun y => relO_one rv y⟩
    have J : Inv X pins σ (upd H1 d (.xd [(f, v)])) ⟨G', g, dr, tk', os⟩ := I1.laid (t' := tk') old M.dbig ob
    refine ⟨e, oe, fv, ⟨G', g, dr, tk', os⟩, _, .ref C, some d, rfl, J, fun b o q => ?_, ge, hoe, ⟨hc, hd⟩, hdat, h1, ?_, rfl, I1.bare, raises_own T.exC T.tyC, q1 d (I1.hok.fresh M.dbig)⟩
    · by_cases hb : b = e
      · have q' : G'.get? b = some o := q
        rw [hb, ge] at q'
        cases q'
      · exact (gk b hb).symm.trans q
    · rw [upd_ne (Ne.symm M.dne)]
      exact I1.hok.fresh M.new
/-- raise C(e) -/
def tRaiseG (C : Addr) (f : Str) (W : WX) (ta : TA) : TS := fun _ σ H => tMkG C f ta σ H fun cls d H' => W cls d σ H'
theorem ps_raiseG {a : Expr} {ta : TA} {W : WX} {p pos pos2 : Pos} {k : Nat} (hc : X.calm = true) (T : EG.GTxt X.prog X.K X.mg f xn C G fI) (ok : EG.FOk f) (hr : Room k X.A) (tk : Takes X W) (ha : PA X [a] ta) (hg : Gl X xn) (hdb : (xn == ("__debug__" : Str)) = false := by decide)
    (he : starEach (a :: []) X.env = (false, eval a X.env) :: starEach [] X.env := by rfl) (hpl : (backTo pos (starEach [] X.env)).any (·.1) = false := by rfl) : PS X (.Raise (some (.Call (.Name xn p) [a] [] pos)) none pos2) (tRaiseG C f W ta) := ps_raise hc tk (pmk_g T ok hr ha hg hdb he hpl)
end
end VL
/-! E3: the caught exception's field; isinstance of it. -/
namespace VL
open PySem PySem.Spec L2
section
variable {X : Cx} {C G fI : Addr} {f xn : Str}
/-- what the class C must say besides, so that its instances' fields are read and isinstance asks them rightly -/
structure CaughtC (K : PySem.W.Frag) (C : Addr) : Prop where
  ga : PySem.W.findIn K (.ref C) "__getattribute__" = some (some (.builtin "BaseException.__getattribute__"))
  gg : PySem.W.findIn K (.ref C) "__getattr__" = some none
  hd : PySem.W.hasDictIn K C = true
  ca : PySem.W.findIn K (.ref C) "__class__" = some (some (.builtin "object.__class__"))
  hn : PySem.W.specialIn K (.builtin "object.__class__") "__get__" = some (some (.builtin "getset_descriptor.__get__"))
  ht : PySem.W.takesIn K (.builtin "object.__class__") = some true
  hm : PySem.W.mroIn K C (.type "object") = some true
theorem caught_at {a dd : Addr} {oe : Obj} {cls : Value} {pn : List (Addr × Obj)} {v : V} {pins : List (Addr × Obj)} {σ : L2.St} {H : Hp} {s : Shared} (hz : Zc cls (some dd) oe) (hf : ∃ vs, oe.data = .fields vs) (ec : cls = .ref C) (I : Inv (X.suite a ((a, oe) :: pn)) pins σ H s) (ea : H dd = some (.xd [(f, v)])) :
    ∃ (od : Obj) (u : Value), PySem.W.InstAt s.heap a oe C (some od) ∧ PySem.W.lookIn f od = some (some u) ∧ RelV v u := by
  obtain ⟨ha, _⟩ := I.pin (a, oe) (List.mem_append_left _ List.mem_cons_self)
  obtain ⟨vs, hd⟩ := hf
  obtain ⟨mA, hns, hr⟩ : ObjOk X.prog X.w H s.heap dd (.xd [(f, v)]) := I.hok dd _ ea
  obtain ⟨od, ho, hl⟩ := lookIn_ns hns
  have l : List.lookup f [(f, v)] = some v := by simp [List.lookup]
  obtain ⟨u, hu, ru⟩ := RelO.some_of (v := v) (o := mA f) (by rw [← l]; exact hr f)
  subst ec
  exact ⟨od, u, ⟨ha, hz.1, by unfold PySem.W.notCls; rw [hd] <;> rfl, by rw [hz.2]; exact ho⟩, by rw [hl, hu], ru⟩
/-- e.f -/
def tFldG (C : Addr) (f : Str) (a : Addr) (cls : Value) (d : Option Addr) (te : TE) : TE := fun σ H Q => te σ H fun x H1 => x = .ref a ∧ cls = .ref C ∧ ∃ (dd : Addr) (v : V), d = some dd ∧ H1 dd = some (.xd [(f, v)]) ∧ Q v H1
theorem pe_fldG {a : Addr} {oe : Obj} {cls : Value} {d : Option Addr} {pn : List (Addr × Obj)} {e : Expr} {te : TE} {pos : Pos} (T : EG.GTxt X.prog X.K X.mg f xn C G fI) (T2 : CaughtC X.K C) (hz : Zc cls d oe) (hf : ∃ vs, oe.data = .fields vs) (he : PE (X.suite a ((a, oe) :: pn)) e te)
    (hb : attributeBase e f X.env (eval e X.env) = eval e X.env := by rfl) : PE (X.suite a ((a, oe) :: pn)) (.Attribute e f pos) (tFldG C f a cls d te) := by
  refine ⟨fun pins s σ H Q I h => ?_⟩
  refine attr_of hb (thn (he.run pins s σ H _ I h) fun u s1 hh => ?_)
  obtain ⟨x, H1, I1, rx, ex, ec, dd, v, ed, ea, q⟩ := hh
  subst ex
  obtain rfl : u = Value.ref a := rx
  subst ed
  obtain ⟨od, u, J, hl, ru⟩ := caught_at hz hf ec I1 ea
  exact HandSPX.exc_get I1.kIn J T2.ga T2.gg T.exC (PySem.W.findObj_own T2.hd T.noN rfl hl) (handed_of ru) ⟨v, H1, I1.tok _, ru, q⟩
/-- isinstance(e, c), isinstance(e, (c1, ..)) -/
def rIsG (K : PySem.W.Frag) (C : Addr) (f : Str) (a : Addr) (cls : Value) (d : Option Addr) : List V → Hp → VK → Prop := fun xs H Q => cls = .ref C ∧ (∃ (dd : Addr) (v : V), d = some dd ∧ H dd = some (.xd [(f, v)])) ∧ ∃ c b, xs = [.ref a, c] ∧ Q (.bl b) H ∧
  ((∃ u, ClsV c u ∧ PySem.W.kitOne K (.ref C) u = some b) ∨ ∃ (tp : Addr) (cs : List V) (us : List Value), c = .ref tp ∧ H tp = some (.tup cs) ∧ Paired ClsV cs us ∧ PySem.W.kitAny K (.ref C) us = some b)
theorem call_isG {a : Addr} {oe : Obj} {cls : Value} {d : Option Addr} {pn : List (Addr × Obj)} (T : EG.GTxt X.prog X.K X.mg f xn C G fI) (T2 : CaughtC X.K C) (hz : Zc cls d oe) (hf : ∃ vs, oe.data = .fields vs) : CallR (X.suite a ((a, oe) :: pn)) (.builtin "isinstance") (rIsG X.K C f a cls d) := by
  intro pins s σ H xs us Q I r h
  obtain ⟨ec, ⟨dd, v, ed, ea⟩, c, b, rfl, q, h⟩ := h
  subst ed
  obtain ⟨u1, u2, rfl, r1, r2⟩ := vals2 r
  cases (show u1 = Value.ref a from r1)
  obtain ⟨od, u, J, hl, ru⟩ := caught_at hz hf ec I ea
  have hcl : (PySem.W.clsIn X.K C).isSome = true := by
    obtain ⟨nm, q, N, bs, sn, sub, ab, col, dd, k0, k1, k2, k3, k5, hC⟩ := T.cls
    unfold PySem.W.clsIn
    rw [hC]
    rfl
  have Z := PySem.W.kitx_exc (x := a) (ox := oe) (od := some od) hcl T2.ga T2.gg T.exC T2.ca T2.hn T2.ht T2.hm
  rcases h with ⟨u, k, e⟩ | ⟨tp, cs, ws, rfl, hT, k, e⟩
  · have e2 := k.eq r2
    subst e2
    exact PySem.W.kia_one Z I.kIn J e (fun z => nomatch z) fun tk => ⟨.bl b, H, I.tok tk, rfl, q⟩
  · cases (show u2 = Value.ref tp from r2)
    obtain ⟨_, its, rv, o, h1, h2, n, h3⟩ : ObjOk X.prog X.w H s.heap tp (.tup cs) := I.hok tp _ hT
    have e3 := ClsV.all k rv
    subst e3
    obtain ⟨oc, od', dt, sl⟩ := o
    simp only at h2 h3
    subst h2 h3
    exact PySem.W.kia_tup Z I.kIn J h1 e (fun z => nomatch z) fun tk => ⟨.bl b, H, I.tok tk, rfl, q⟩
end
end VL
/-! E4: try with several clauses, with names or without. -/
namespace VL
open PySem PySem.Spec L2
/-- a clause: its class, its name's slot, its suite -/
structure Cl where
  c : Value
  i : Option Nat
  ts : Addr → Value → Option Addr → TS
def endsIn (D : Ends) : Option Nat → Ends
  | none => D
  | some i => { nx := fun σ H => D.nx (σ.set i none) H, rt := D.rt, bk := fun σ H => D.bk (σ.set i none) H, ct := fun σ H => D.ct (σ.set i none) H }
def stIn (σ : L2.St) (a : Addr) : Option Nat → L2.St
  | none => σ
  | some i => σ.set i (some (.ref a))
/-- what the clauses wish of an exception of the body -/
def wCl (K : PySem.W.Frag) (Wout : WX) (D : Ends) : List Cl → WX
  | [] => Wout
  | q :: r => fun cls d σ H => ∃ b, PySem.W.exmOne K cls q.c = some b ∧ (b = true → ∀ a, H a = none → q.ts a cls d (endsIn D q.i) (stIn σ a q.i) H) ∧ (b = false → wCl K Wout D r cls d σ H)
def NmOk (X : Cx) : Option Str → Option Nat → Prop
  | none, none => True
  | some n, some i => X.N[i]? = some n ∧ X.env.kindOf n = some .local
  | _, _ => False
inductive ClsOk (X : Cx) : List ExceptHandler → List Cl → Prop
  | nil : ClsOk X [] []
  | cons {x : Str} {q : Cl} {nm : Option Str} {b₀ : Stmt} {suite : List Stmt} {np pos' : Pos} {hds : List ExceptHandler} {l : List Cl} (hc : Names X x q.c) (hn : NmOk X nm q.i)
      (hsu : ∀ (a : Addr) (oe : Obj) (cls : Value) (d : Option Addr) (pn : List (Addr × Obj)), Zc cls d oe → (∃ vs, oe.data = .fields vs) → PSs (X.suite a ((a, oe) :: pn)) (b₀ :: suite) (q.ts a cls d))
      (r : ClsOk X hds l) : ClsOk X (.ExceptHandler (some (.Name x np)) nm (b₀ :: suite) pos' :: hds) (q :: l)
section
variable {X : Cx}
/-- an exception that has come down at the try's frame -/
structure Down (X : Cx) (pins : List (Addr × Obj)) (a : Addr) (B : Heap) (sI : Shared) (σ : L2.St) (H : Hp) (cls : Value) (d : Option Addr) (s : Shared) (h : Heap) : Prop where
  J : Inv X pins σ H sI
  nb : ∀ b o, sI.heap.get? b = some o → b ∉ frs X.stack → B.get? b = some o
  upS : sI.heap.UpToSlots h
  fl : HandSPX.FlyingZ B (X.env :: X.outer) a (Zc cls d) h
  na : H a = none
  os : s.os = sI.os
  ag : PyProof.Rows.AllBare s.gens
theorem Down.inv {pins : List (Addr × Obj)} {a : Addr} {B : Heap} {sI : Shared} {σ : L2.St} {H : Hp} {cls : Value} {d : Option Addr} {s : Shared} {h : Heap} (w : Down X pins a B sI σ H cls d s h) : Inv X pins σ H { s with heap := h } := w.J.landed w.nb w.fl.1 w.upS w.os w.ag
theorem Down.suite {pins : List (Addr × Obj)} {a : Addr} {B : Heap} {sI : Shared} {σ : L2.St} {H : Hp} {cls : Value} {d : Option Addr} {s : Shared} {h : Heap} (w : Down X pins a B sI σ H cls d s h) (hf : X.env.frame = some X.env.locals) :
    ∃ (oe : Obj) (vs : Array Value), h.get? a = some oe ∧ Zc cls d oe ∧ oe.data = .fields vs ∧ Inv (X.suite a ((a, oe) :: (X.pn ++ pins))) [] σ H { s with heap := h } := by
  obtain ⟨oe, vs, he, hz, hd⟩ := w.fl.there
  have off : a ∉ frs (X.env :: X.outer) := fun hm => by
    obtain ⟨_, o', e', hnf⟩ := w.fl.2.2.1.mem hm
    rw [he] at e'
    cases e'
    exact hnf _ hd
  have l1 : a ≠ X.env.locals := fun z => off (List.mem_filterMap.mpr ⟨X.env, List.mem_cons_self, by rw [hf, z]⟩)
  have l2 : a ∉ X.fs := fun hm => by
    obtain ⟨e, hE, q⟩ := List.mem_filterMap.mp hm
    exact off (List.mem_filterMap.mpr ⟨e, List.mem_cons_of_mem _ hE, q⟩)
  exact ⟨oe, vs, he, hz, hd, w.inv.suite he hd w.na l1 l2⟩
theorem Down.more {pins : List (Addr × Obj)} {a : Addr} {B : Heap} {sI : Shared} {σ : L2.St} {H : Hp} {cls : Value} {d : Option Addr} {s : Shared} {h h' : Heap} (w : Down X pins a B sI σ H cls d s h) (fl : HandSPX.FlyingZ B (X.env :: X.outer) a (Zc cls d) h') (up : h.UpToSlots h') : Down X pins a B sI σ H cls d s h' :=
  ⟨w.J, w.nb, w.upS.trans up, fl, w.na, w.os, w.ag⟩
theorem clauses_go {Wout : WX} {D : Ends} {pins : List (Addr × Obj)} {a : Addr} {B : Heap} {sI : Shared} {σ : L2.St} {H : Hp} {cls : Value} {d : Option Addr} {s : Shared} {h : Heap} (ok : X.Ok) (hs : X.stack = X.env :: X.outer) (hf : X.env.frame = some X.env.locals) (hN : X.N.Nodup) (tk : Takes X Wout)
    (dn : Down X pins a B sI σ H cls d s h) : ∀ {hds : List ExceptHandler} {l : List Cl}, ClsOk X hds l → wCl X.K Wout D l cls d σ H → wpAny (model X.prog X.w) X.A (handleBy (.ref a) X.env hds) (SP X pins D) X.xe { s with heap := h } := by
  intro hds l hk
  induction hk with
  | nil =>
    intro wish
    refine wpAny_handleBy_nil ?_
    obtain ⟨_, _, _, oe, vs, T, oT, tsT, he, hz, hd, h1, hr⟩ := id dn.fl
    unfold PySem.passOn
    refine wpAny_bind (wpAny_field he hd h1 ?_)
    have nT : ¬ ((Value.ref T == Value.none) = true) := by simp
    rw [if_neg nT]
    have out : wpAny (model X.prog X.w) X.A (setFlight (.ref a) X.env.frame) (fun _ s4 => wpAny (model X.prog X.w) X.A (throw (.ref a) : Sem Flow) (SP X pins D) X.xe s4) X.xe { s with heap := h } := by
      rw [hf]
      refine HandSPX.setFlight_upZ dn.fl fun h4 up4 up5 => wpAny_throw (tk _ _ ?_)
      exact ⟨a, B, sI, pins, σ, H, cls, d, rfl, dn.J, dn.nb, dn.upS.trans up5, .inr (.inr (by rw [hs]; exact up4)), dn.na, dn.os, dn.ag, wish⟩
    first
      | exact wpAny_bind (wpAny_pure (wpAny_bind out))
      | exact wpAny_bind out
  | @cons x q nm b₀ suite np pos' hds2 l2 hc hn hsu r ih =>
    intro wish
    obtain ⟨b, hb1, yes, no⟩ := wish
    obtain ⟨oe3, vs3, he3, hz3, hd3, S3⟩ := dn.suite hf
    refine wpAny_handleBy_cons (codeAny_handlers_test ?_) (by intro z; cases z)
    have lty : PySem.W.Looks (model X.prog X.w) h (typeOf (.ref a)) cls := fun A Q E s k q => wpAny_typeOf_ref (k _ _ he3) (by rw [hz3.1]; exact q)
    have lex := PySem.W.exm_one (M := model X.prog X.w) dn.inv.kIn lty hb1
    have named : ∀ {Q : Value → Shared → Prop} {E : Value → Shared → Prop}, Q q.c { s with heap := h } → wpAny (model X.prog X.w) (X.A.mark (some (.ref a))) (eval (.Name x np) X.env) Q E { s with heap := h } := fun {Q E} qq => by
      obtain ⟨hg, hdbg, m1 | ⟨m2, m3, m4⟩⟩ := hc
      · exact ld_glob (X := X.suite a ((a, oe3) :: (X.pn ++ pins))) S3 hg m1 qq hdbg
      · exact ld_blt (X := X.suite a ((a, oe3) :: (X.pn ++ pins))) S3 hg m2 m3 qq m4 hdbg
    refine named (lex.here ?_)
    cases b with
    | false =>
      show wpAny _ X.A (handleBy (.ref a) X.env hds2) _ _ _
      exact ih (no rfl)
    | true =>
      obtain ⟨c, i, ts⟩ := q
      cases i with
      | none =>
        cases nm with
        | some n => exact (show False from hn).elim
        | none =>
          refine codeAny_handlers_suite ?_
          refine HandSPX.lands_againZ dn.fl fun h4 fl4 up4 => ?_
          obtain ⟨oe4, vs4, he4, hz4, hd4, S4⟩ := (dn.more fl4 up4).suite hf
          refine wpAny_mono ((hsu a oe4 cls d (X.pn ++ pins) hz4 ⟨_, hd4⟩).run [] _ _ H _ S4 (yes rfl a dn.na)) (fun f s6 hsp => ?_) fun _ _ z => False.elim z
          cases f with
          | ret u =>
            obtain ⟨v6, σ6, H6, S6, r6, q6⟩ := hsp
            exact ⟨v6, σ6, H6, S6.unsuite ok, r6, q6⟩
          | _ =>
            obtain ⟨σ6, H6, S6, q6⟩ := hsp
            exact ⟨σ6, H6, S6.unsuite ok, q6⟩
      | some i =>
        cases nm with
        | none => exact (show False from hn).elim
        | some n =>
          obtain ⟨hi, hl⟩ : X.N[i]? = some n ∧ X.env.kindOf n = some .local := hn
          refine codeAny_handlers_suite_as ?_
          refine HandSPX.lands_againZ dn.fl fun h4 fl4 up4 => ?_
          obtain ⟨oe4, vs4, he4, hz4, hd4, S4⟩ := (dn.more fl4 up4).suite hf
          refine store_ok (X := X.suite a ((a, oe4) :: (X.pn ++ pins))) (v := .ref a) S4 hN hi (.inl hl) rfl (fun s5 S5 => ?_) (.inr hl)
          refine wpAny_mono ((hsu a oe4 cls d (X.pn ++ pins) hz4 ⟨_, hd4⟩).run [] s5 _ H _ S5 (yes rfl a dn.na)) (fun f s6 hsp => ?_) fun _ _ z => False.elim z
          have gone : ∀ {σ6 : L2.St} {H6 : Hp} {Q : Shared → Prop}, Inv (X.suite a ((a, oe4) :: (X.pn ++ pins))) [] σ6 H6 s6 → (∀ s7, Inv X pins (σ6.set i none) H6 s7 → Q s7) →
              wpAny (model X.prog X.w) X.A (do bindName X.env n .none; unbindBehindTheSuite X.env n pos') (fun _ s7 => Q s7) X.xe s6 := fun {σ6 H6 Q} S6 hq => gone_ok (S6.unsuite ok) hN hi hl hq
          cases f with
          | ret u =>
            obtain ⟨v6, σ6, H6, S6, r6, q6⟩ := hsp
            exact gone S6 fun s7 J7 => ⟨_, _, _, J7, r6, q6⟩
          | next =>
            obtain ⟨σ6, H6, S6, q6⟩ := hsp
            exact gone S6 fun s7 J7 => ⟨_, _, J7, q6⟩
          | brk =>
            obtain ⟨σ6, H6, S6, q6⟩ := hsp
            exact gone S6 fun s7 J7 => ⟨_, _, J7, q6⟩
          | cont =>
            obtain ⟨σ6, H6, S6, q6⟩ := hsp
            exact gone S6 fun s7 J7 => ⟨_, _, J7, q6⟩
/-- try: body, several clauses -/
theorem ps_tryC {body : List Stmt} {h₀ : ExceptHandler} {hds : List ExceptHandler} {l : List Cl} {pos : Pos} {tb : WX → TS} {Wout : WX} (hs : X.stack = X.env :: X.outer) (hf : X.env.frame = some X.env.locals) (hN : X.N.Nodup) (tk : Takes X Wout)
    (hb : ∀ (W : WX) (pn : List (Addr × Obj)) (xe : Value → Shared → Prop), Takes (X.tr pn xe) W → PassesOwn (model X.prog X.w) X.A X.env xe → PSs (X.tr pn xe) body (tb W)) (hh : ClsOk X (h₀ :: hds) l) :
    PS X (.Try body (h₀ :: hds) [] [] pos) (fun D σ H => tb (wCl X.K Wout D l) D σ H) := by
  refine ⟨fun pins s σ H D I h => ?_⟩
  have ok := I.ok
  have frm : X.A.frames = some (X.env :: X.outer) := by rw [ok.frames, hs]
  refine wpAny_Try_except ?_
  let fly : Value → Shared → Prop := fun e s₁ => wpAny (model X.prog X.w) X.A (noteFrame e X.env) (fun _ s₂ => wpAny (model X.prog X.w) X.A (setFlight e none) (fun _ s₃ => wpAny (model X.prog X.w) X.A (handleBy e X.env (h₀ :: hds)) (SP X pins D) X.xe s₃) X.xe s₂) X.xe s₁
  refine wpAny_mono ((hb (wCl X.K Wout D l) (X.pn ++ pins) fly (fun u s' xx => ?_) PassesOwn.looking).run [] s σ H D (I.toTry _) h) (fun f s1 hsp => ?_) fun e s1 he => he
  · obtain ⟨a, B, sI, pins', σ', H', cls, d, rfl, J', nb, up, sky, na, os, ag, wish⟩ := xx
    have sky' : Sky B (X.env :: X.outer) a (Zc cls d) X.env.locals s'.heap := by
      rw [← hs]
      exact sky
    refine Sky.land Zc.steady frm hf sky' fun h3 fl3 up3 => ?_
    exact clauses_go ok hs hf hN tk ⟨J'.ofTry ok, nb, up.trans up3, fl3, na, os, ag⟩ hh wish
  · cases f with
    | next =>
      obtain ⟨σ1, H1, J1, q1⟩ := hsp
      exact wpAny_execs_nil ⟨σ1, H1, J1.ofTry ok, q1⟩
    | ret u =>
      obtain ⟨v1, σ1, H1, J1, r1, q1⟩ := hsp
      exact ⟨v1, σ1, H1, J1.ofTry ok, r1, q1⟩
    | _ =>
      obtain ⟨σ1, H1, J1, q1⟩ := hsp
      exact ⟨σ1, H1, J1.ofTry ok, q1⟩
end
end VL
/-! E5: the value layer's rules for a raise and for a call that lets nothing out. -/
namespace VL
open PySem PySem.Spec L2
section
variable {P : Cz} {Z : Fz} {fl fl1 fl2 fl3 lv L : List Nat} {σ : L2.St} {env env' : Env} {H H' H1 : Hp} {Fs Fs' Fs1 : List (List Addr)}
def bRaise (cls : String) (f : Str) (d : D) (e : Env) : Res Out := match d.sv with
  | some v => some (.ex ⟨cls, [(f, v)]⟩, e)
  | none => none
def sRaise (cls : String) (f : Str) (ev : Ev) : Sv := fun env => bindM (ev env) (bRaise cls f)
theorem rs_raiseG {cls : String} {f : Str} {te : TE} {ev : Ev} {al : AL} (h : RE P lv fl te ev al fl1) : RS P Z lv fl (tRaiseG (P.ca cls) f (fun c d _ H => P.E c d H) (tCons te tNil)) (sRaise cls f ev) L fl2 := fun σ env H Fs r env' S he Dn hQ => by
  show te σ H fun x H1 => (fun vs H1 => ∃ v, vs = [v] ∧ ∀ d, H1 d = none → P.E (.ref (P.ca cls)) (some d) (upd H1 d (.xd [(f, v)]))) [x] H1
  refine h.bind S he hQ.ex _ fun d e1 q he v F H' Fs' S' st rp tk og => ?_
  unfold bRaise at he
  split at he
  · rename_i u hu
    cases he
    obtain ⟨rfl, _, _⟩ := rp.sv hu
    refine ⟨v, rfl, fun dd hd => ?_⟩
    refine hQ (.ref (P.ca cls)) (some dd) (upd H' dd (.xd [(f, v)])) (fun b o e hb => ?_) ⟨rfl, .inr ⟨dd, rfl, upd_same⟩⟩
    have hb' := S'.frm b o e hb
    have nb : b ≠ dd := fun z => by
      rw [z, hd] at hb'
      cases hb'
    rw [upd_ne nb]
    exact hb'
  · cases he
/-- a promise by which nothing is let out -/
def noEx (f : Fm) : Fm := fun ds => match f ds with
  | some (.ex _, _) => none
  | r => r
theorem spV_no {K : PySem.W.Frag} {ca : String → Addr} {ks : List Bool} {fr : Bool} {f : Fm} {vs : List V} {H : Hp} {Q : VK} {E E' : XK} (h : spV K ca ks fr (noEx f) vs H Q E) : spV K ca ks fr f vs H Q E' := by
  obtain ⟨ds, Fv, Ms, r, ios, a, b, c, e, q⟩ := h
  unfold noEx at e
  cases hf : f ds with
  | none => rw [hf] at e; cases e
  | some p =>
    obtain ⟨r', ios'⟩ := p
    rw [hf] at e
    cases r' with
    | ex x => cases e
    | ok d =>
      cases e
      exact ⟨ds, Fv, Ms, .ok d, ios, a, b, c, hf, q⟩
end
/-- a def that may raise, called where it does not -/
theorem Cal.calm {P : Program} {w : World} {K : PySem.W.Frag} {mg : Str → Option Value} {base : Heap} {x : Str} {k : Nat} {ps : List Str} {ca : String → Addr} {ks : List Bool} {fr : Bool} {f : Fm} (C : Cal P w K mg base (L2.CX P w) x k ps (spV K ca ks fr f)) : Cal P w K mg base CX0 x k ps (spV K ca ks fr (noEx f)) := by
  obtain ⟨fa, fd, F, b, m, kp⟩ := C.ex
  refine ⟨fa, fd, ⟨fun vs H Q E h => F.len vs H Q E0 (spV_no h), fun A outer s H args us vs Q E hr he hb hv hs => ?_⟩, b, m, kp⟩
  refine codeAny_mono (F.run A outer s H args us vs Q E0 hr he hb hv (spV_no hs)) fun r s' hq => ?_
  cases r with
  | ok fl => cases fl <;> exact hq
  | error u =>
    obtain ⟨_, _, _, _, _, _, _, _, _, _, _, _, z⟩ := hq
    exact z.elim
end VL
/-! E6: a def that is called within an except suite (it raises nothing, and asks nothing of what is handled). -/
namespace VL
open PySem PySem.Spec L2 PyProof.Rows
structure RoomA (k : Nat) (A : Around) : Prop where
  dp : A.depth + 3 * k + 5 < recursionLimit
  un : A.units + 16 * k + 200 < cLine
theorem RoomA.mono {j k : Nat} {A : Around} (r : RoomA k A) (h : j ≤ k) : RoomA j A := ⟨by have := r.dp; omega, by have := r.un; omega⟩
theorem RoomA.deeper {k : Nat} {A : Around} (r : RoomA (k + 1) A) (env : PySem.Env) : RoomA k (A.deeper env) :=
  ⟨by have := r.dp; show A.depth + 1 + 3 * k + 5 < _; omega, by have := r.un; show A.units + 3 + 16 * k + 200 < _; omega⟩
theorem RoomA.depth {k : Nat} {A : Around} (r : RoomA k A) : A.depth < recursionLimit := by have := r.dp; omega
theorem RoomA.units {k : Nat} {A : Around} (r : RoomA k A) : A.units + 64 < cLine := by have := r.un; omega
theorem roomA_of {k : Nat} {A : Around} (r : Room k A) : RoomA k A := ⟨r.dp, r.un⟩
structure FnA (P : Program) (w : World) (K : PySem.W.Frag) (mg : Str → Option Value) (base : Heap) (k : Nat) (f : Addr) (fd : FuncData) (ps : List Str) (sp : Sp) : Prop where
  len : ∀ vs H Q E, sp vs H Q E → vs.length = ps.length
  run : ∀ (A : Around) (outer : List PySem.Env) (s : Shared) (H : Hp) (args : Args) (us : List Value) (vs : List V) (Q : VK) (E : XK), RoomA k A → Env0 P w K mg base A outer s H → BindsTo s fd args (ps.zip us) → Vals vs us → sp vs H Q E →
    codeAny (model P w) A (.call (.ref f) args) (CR CX0 outer P w H s Q E) s
def cxA (CX : CXT) (P : Program) (w : World) (K : PySem.W.Frag) (mg : Str → Option Value) (base : Heap) (N : List Str) (qual : Str) (scope : Scope) (f : Addr) (cd : Value) (A : Around) (outer : List PySem.Env) (s : Shared) (H : Hp) (E : XK) : Cx :=
  { cxOf CX P w K mg base N qual scope f cd A outer s H E with calm := false }
theorem inv_startA {CX : CXT} {P : Program} {w : World} {K : PySem.W.Frag} {mg : Str → Option Value} {base : Heap} {N ps : List Str} {qual : Str} {scope : Scope} {f : Addr} {cd : Value} {A : Around} {outer : List PySem.Env} {s s1 : Shared} {H : Hp} {E : XK} {us : List Value} {vs : List V}
    (S : FnScope N ps scope) (e0 : Env0 P w K mg base A outer s H) (hl : vs.length = ps.length) (r : Vals vs us)
    (x : InCallC s s.heap.objs.size (bindL (envOfC qual scope s.heap.objs.size f cd).kindOf (ps.zip us) fun _ => none) (cellsFrom (s.heap.objs.size + 1) scope.names []) (bindC (envOfC qual scope s.heap.objs.size f cd).kindOf (ps.zip us) fun _ => none) s1) :
    Inv (cxA CX P w K mg base N qual scope f cd A outer s H E) [] (L2.start N vs) H s1 := by
  have hpl : ps.length ≤ N.length := by have := congrArg List.length S.pre; rw [List.length_take] at this; omega
  obtain ⟨h1, tk, rfl, hk⟩ := x.done
  have noA : ∀ b : Addr, b ∉ (cxA CX P w K mg base N qual scope f cd A outer s H E).ex := fun b z => absurd (show b ∈ ([] : List Addr) from z) (by simp)
  refine ⟨⟨e0.mod, S.kind, rfl, rfl, Nat.le_refl _, fun y z c h1 h2 => ?_, fun y hy => ?_, fun y c _ h => ?_, (fun z => Bool.noConfusion (show false = true from z)), Around.frames_deeper e0.frames, .inr ⟨rfl, rfl⟩, fun b z => absurd z (noA b), e0.bs, e0.bsz, fun b _ _ => noA b, fun b z => absurd z (noA b), e0.funs, e0.frf⟩,
    rfl, e0.bare, Un.kept hk, ⟨_, x.toInCall.ns, fun i y v h1 h2 h3 => ?_⟩, fun y c h => ⟨_, x.cell y c h⟩, e0.hok.fresh (Nat.le_refl _), fun y c h => ?_, fun p hp => absurd (show p ∈ ([] : List (Addr × Obj)) from hp) (by simp), e0.hok.kept hk, ?_⟩
  · exact name_of_addr x.apart (PySem.mem_of_lookup h1) (PySem.mem_of_lookup h2)
  · have hy : scope.names.lookup y = some .cell ∨ scope.names.lookup y = some .free := hy
    rcases hy with hy | hy
    · exact cell_has hy
    · exact absurd rfl (S.nofree _ (PySem.mem_of_lookup hy))
  · exact Nat.le_of_lt (x.above y c (PySem.mem_of_lookup h))
  · have hi : i < vs.length := by
      unfold L2.start at h2
      by_cases hi : i < vs.length
      · exact hi
      · rw [List.getElem?_append_right (by simpa using hi)] at h2
        rw [List.getElem?_replicate] at h2
        split at h2 <;> cases h2
    have ha : vs[i]? = some v := by
      unfold L2.start at h2
      rw [List.getElem?_append_left (by simpa using hi), List.getElem?_map] at h2
      cases e : vs[i]? with
      | none => rw [e] at h2; cases h2
      | some a => rw [e] at h2; cases h2; rfl
    obtain ⟨u, hu, rv⟩ := r.get ha
    have hp : ps[i]? = some y := by
      rw [← S.pre, List.getElem?_take_of_lt (by omega)]; exact h1
    have ndP : ps.Nodup := by rw [← S.pre]; exact S.nd.sublist (List.take_sublist _ _)
    refine ⟨u, rv, ?_⟩
    rcases S.par y (List.mem_of_getElem? hp) with k | k
    · exact .inl ⟨k, bindL_get ndP hp hu k⟩
    · obtain ⟨c, e⟩ := cell_has (n := s.heap.objs.size + 1) k
      refine .inr ⟨.inl k, c, e, ?_⟩
      have q := x.cell y c e
      rw [bindC_get ndP hp hu (by show scope.names.lookup y ≠ _; rw [k]; decide)] at q
      exact q
  · exact e0.hok.fresh (Nat.le_of_lt (x.above y c (PySem.mem_of_lookup h)))
  · unfold L2.start
    show _ = N.length
    rw [List.length_append, List.length_map, List.length_replicate]
    omega
theorem okA {P : Program} {w : World} {K : PySem.W.Frag} {mg : Str → Option Value} {base : Heap} {x qual : Str} {st : Stmt} {f : Addr} {fd : FuncData} {N ps : List Str} {k : Nat} {sp : Sp} (F : Fun K x qual st f fd) (S : FnScope N ps (defScope st)) (len : ∀ vs H Q E, sp vs H Q E → vs.length = ps.length)
    (hbody : ∀ (cdv : Value) (A : Around) (outer : List PySem.Env) (s : Shared) (H : Hp) (vs : List V) (Q : VK) (E : XK), RoomA k (A.deeper (envOfC qual (defScope st) s.heap.objs.size f cdv)) → sp vs H Q E →
      ∃ t, PSs (cxA CX0 P w K mg base N qual (defScope st) f cdv A outer s H E) (defBody st) t ∧ t { nx := fun _ H' => Q .non H', rt := Q } (L2.start N vs) H) : FnA P w K mg base (k + 1) f fd ps sp := by
  obtain ⟨oc, od, kV, doc, pm, an, cdv, ct, osl, rfl, lk, hcd⟩ := F.ex
  refine ⟨len, fun A outer s H args us vs Q E hr e0 hb r hsp => ?_⟩
  have hl := len _ _ _ _ hsp
  have KX : K.In s.heap := e0.mod.kin.keeps fun b o e => (e0.bs b o e).1
  have lim : s.heap.NoLimit := e0.mod.nolimit.keeps fun b o e => (e0.bs b o e).1
  have hkind : ∀ y ∈ ps.zip us, (defScope st).names.lookup y.1 = some .local ∨ ((defScope st).names.lookup y.1 = some .cell ∧ ((cellsFrom (s.heap.objs.size + 1) (defScope st).names []).lookup y.1).isSome = true) := fun ⟨n, v⟩ hy => by
    rcases S.par n (List.of_mem_zip hy).1 with q | q
    · exact .inl q
    · exact .inr ⟨q, PySem.W.cellsFrom_some _ _ _ (.inl q)⟩
  refine codeAny_call_function hr.depth (KX _ _ lk) rfl S.co S.gen rfl (PySem.W.codeRec_of KX hcd) (hb _ _ _ _ ?_)
  refine wpAny_newFunctionEnv_cells S.kind hkind fun env he s1 x => ?_
  subst he
  refine ⟨lim.keeps x.toInCall.keep, codeAny_func ?_⟩
  obtain ⟨t, ht, hq⟩ := hbody cdv A outer s H vs Q E (hr.deeper _) hsp
  have I : Inv (cxA CX0 P w K mg base N qual (defScope st) f cdv A outer s H E) [] (L2.start N vs) H s1 := inv_startA S e0 hl r x
  refine wpAny_mono (ht.run [] s1 (L2.start N vs) H _ I hq) (fun fl s' hs => ?_) fun e s' hs => hs
  have fin : ∀ {σ' : L2.St} {H' : Hp} {v : V} {u : Value}, Inv (cxA CX0 P w K mg base N qual (defScope st) f cdv A outer s H E) [] σ' H' s' → RelV v u → Q v H' → CE outer P w H s Q u s' :=
    fun {σ' H' v u} J rv q => ⟨v, H', J.os, J.bare, J.base, J.hok, rv, q⟩
  cases fl with
  | ret u =>
    obtain ⟨v, σ', H', J, rv, q⟩ := hs
    exact fin J rv q
  | next =>
    obtain ⟨σ', H', J, q⟩ := hs
    exact fin (v := V.non) (u := Value.none) J rfl q
  | brk =>
    obtain ⟨_, _, _, q⟩ := hs
    exact False.elim q
  | cont =>
    obtain ⟨_, _, _, q⟩ := hs
    exact False.elim q
/-- such a def at a call by its name -/
structure CalA (P : Program) (w : World) (K : PySem.W.Frag) (mg : Str → Option Value) (base : Heap) (x : Str) (k : Nat) (ps : List Str) (sp : Sp) : Prop where
  ex : ∃ (f : Addr) (fd : FuncData), FnA P w K mg base k f fd ps sp ∧ Binds K fd ps [] ∧ mg x = some (.ref f) ∧ PySem.W.keepIn K (.ref f) = true
theorem pe_calA {X : Cx} {E : XK} {k : Nat} {x : Str} {ps : List Str} {sp : Sp} {p pos : Pos} {e : Expr} {es : List Expr} {t : TA} (C : CalA X.prog X.w X.K X.mg X.base x k ps sp) (hr : RoomA k X.A) (hg : Gl X x)
    (ha : PA X (e :: es) t) (hdb : (x == ("__debug__" : Str)) = false := by decide) (he : starEach (e :: es) X.env = (false, eval e X.env) :: starEach es X.env := by rfl) (hpl : (backTo pos (starEach es X.env)).any (·.1) = false := by rfl) :
    PE X (.Call (.Name x p) (e :: es) [] pos) (tCall sp [] E t) := by
  obtain ⟨f, fd, F, hb, hm, hk⟩ := C.ex
  refine ⟨fun pins s σ H Q I h => ?_⟩
  refine wpAny_Call_Name_kw (ld_glob I hg hm ?_ hdb)
  refine PySem.W.callWith_K (h₀ := X.base) I.ok.mod.kin hk (thn (ha.run pos pins s σ H _ I h) fun us s1 ⟨vs, H1, I1, r, q⟩ => ⟨I1.kIn, ?_⟩) he hpl
  have q : sp vs H1 Q E := by
    have q' : sp (vs ++ []) H1 Q E := q
    rw [List.append_nil] at q'
    exact q'
  have hl : us.length = ps.length := by rw [← r.length]; exact F.len _ _ _ _ q
  have b := hb s1 us I1.kIn (by rw [List.append_nil]; exact hl)
  rw [List.append_nil] at b
  refine wpAny_call (codeAny_mono (F.run X.A X.stack s1 H1 ⟨us, []⟩ us vs Q E hr I1.env0 b r q) fun r s' hq => ?_)
  cases r with
  | error e => exact False.elim hq
  | ok fl =>
    cases fl with
    | ret u => exact I1.after hq
    | next => exact False.elim hq
    | brk => exact False.elim hq
    | cont => exact False.elim hq
end VL
/-! E7: the facts of own exceptions out of what the written part tells. -/
namespace VL
open PySem PySem.Spec L2
section
variable {K : PySem.W.Frag} {C D G : Addr} {t : Value} {b : Bool}
theorem kitCls_of (h2 : PySem.W.isClsIn K D = true) (h3 : PySem.W.typeIn K (.ref D) = some (.type "type")) (h4 : PySem.W.subIn K t (.ref D) = some b) : PySem.W.kitCls K t (.ref D) = some b := by
  have e2 : ((PySem.W.clsIn K D).isSome && PySem.W.typeIn K (.ref D) == some (.type "type")) = true := by
    have h2' : (PySem.W.clsIn K D).isSome = true := h2
    rw [h2', h3] <;> rfl
  show (if ((PySem.W.clsIn K D).isSome && PySem.W.typeIn K (.ref D) == some (.type "type")) = true then PySem.W.subIn K t (.ref D) else none) = some b
  rw [if_pos e2]
  exact h4
theorem kitOne_t (h2 : PySem.W.isClsIn K D = true) (h3 : PySem.W.typeIn K (.ref D) = some (.type "type")) (h4 : PySem.W.subIn K t (.ref D) = some true) : PySem.W.kitOne K t (.ref D) = some true := by
  unfold PySem.W.kitOne
  split
  · rfl
  · exact kitCls_of h2 h3 h4
theorem kitOne_f (h2 : PySem.W.isClsIn K D = true) (h3 : PySem.W.typeIn K (.ref D) = some (.type "type")) (hs : PySem.W.subIn K (.ref C) (.ref C) = some true) (h4 : PySem.W.subIn K (.ref C) (.ref D) = some false) : PySem.W.kitOne K (.ref C) (.ref D) = some false := by
  unfold PySem.W.kitOne
  by_cases e : C = D
  · subst e
    rw [hs] at h4
    cases h4
  · have : ¬ ((Value.ref C == Value.ref D) = true) := by simpa using e
    rw [if_neg this]
    exact kitCls_of h2 h3 h4
theorem kitAny_f {u : Value} {r : List Value} (h : PySem.W.kitOne K t u = some false) (hr : PySem.W.kitAny K t r = some false) : PySem.W.kitAny K t (u :: r) = some false := by
  unfold PySem.W.kitAny
  rw [h]
  exact hr
theorem exmOne_of (hb : PySem.W.subIn K (.ref D) (.type "BaseException") = some true) (h2 : PySem.W.isClsIn K D = true) (h3 : PySem.W.typeIn K (.ref D) = some (.type "type")) (h4 : PySem.W.subIn K t (.ref D) = some b) : PySem.W.exmOne K t (.ref D) = some b := by
  have e1 : (PySem.W.subIn K (.ref D) (.type "BaseException") == some true) = true := by rw [hb] <;> rfl
  unfold PySem.W.exmOne
  rw [if_pos e1]
  exact kitCls_of h2 h3 h4
end
/-- the facts of an own class over an own class over Exception -/
theorem gtxt_of {P : Program} {K : PySem.W.Frag} {h : Heap} {mg : Str → Option Value} {f x : Str} {C G fI : Addr} (X : K.In h) (Gm : h.Ns mainGlobals mg)
    {nm q nmG qG : Str} {idg : String} {N NG : Addr} {bs bsG : List Value} {hdG : Bool} {sn snG : List Str} {sub subG : List Value} {ab abG : Bool} {col colG : Option Bool} {dd ddG : Option Addr} {k0 k1 k2 k3 k5 g0 g1 g2 g3 g5 : Option Value}
    {qual : Str} {oc : Value} {od : Option Addr} {doc pm : Value} {an : Option Addr} {cda cc : Addr} {ct : Value} {osl : Array (Option Value)} {p1 p2 q1 q2 q3 q4 q5 q6 r1 r2 r3 r4 : Pos} {ccl : Value} {cdd : Option Addr} {vs : Array Value} {ccs : Array (Option Value)} {file : Str} {tf : Tok} {cl : Value} {cld : Option Addr} {csl : Array (Option Value)}
    (aC : PySem.W.nsIn K mainGlobals x = some (some (.ref C))) (xL : K.lookup C = some (excClassObj nm q C N bs [.ref G, .type "Exception", .type "BaseException", .type "object"] true sn sub ab col dd k0 k1 k2 k3 k5 "Exception.__new__"))
    (xG : K.lookup G = some (excClassObj nmG qG G NG bsG [.type "Exception", .type "BaseException", .type "object"] hdG snG subG abG colG ddG g0 g1 g2 g3 g5 idg))
    (fG : PySem.W.findIn K (.ref G) "__init__" = some (some (.builtin "Exception.__init__")))
    (sa : PySem.W.findIn K (.ref C) "__setattr__" = some (some (.builtin "object.__setattr__"))) (nb : PySem.W.findIn K (.ref C) f = some none) (iC : PySem.W.findIn K (.ref C) "__init__" = some (some (.ref fI))) (tC : PySem.W.typeIn K (.ref fI) = some (.type "function"))
    (kC : PySem.W.keepIn K (.ref C) = true) (eC : PySem.W.subIn K (.ref C) (.type "BaseException") = some true) (yC : PySem.W.typeIn K (.ref C) = some (.type "type"))
    (lI : K.lookup fI = some ⟨oc, od, .func (PySem.W.ksFn "__init__" qual (EG.iA f p1 p2) (EG.iB f q1 q2 q3 q4 q5 q6 r1 r2 r3 r4) (EG.iS f) .none .none doc pm an (.ref cda) ct cc), osl⟩) (cI : PySem.W.codeIn K (.ref cda) qual = true)
    (hpl : ∃ pl : PySem.Env → Sem Bool, ∀ env : PySem.Env, eval (.Call (.Attribute (.Call (.Name "super" q1) [] [] q2) "__init__" q3) [.Name f q4] [] q5) env = (do
      let ov ← attributeBase (.Call (.Name "super" q1) [] [] q2) "__init__" env (eval (.Call (.Name "super" q1) [] [] q2) env)
      standAt q3.atName
      let (m, first) ← holding [ov] (getMethod ov "__init__" (pl env))
      callWith q5 m first (backTo q5 (starEach [.Name f q4] env)) []))
    (lcd : K.lookup cda = some ⟨ccl, cdd, .fields vs, ccs⟩) (hvs : vs[2]? = some (.str file tf)) (hfile : ((P.main.file : Str) == file) = true) (lcc : K.lookup cc = some ⟨cl, cld, .cell (some (.ref C)), csl⟩)
    (sup : PySem.W.nsIn K mainGlobals "super" = some none) (top : (P.main.scope.names.lookup ("super" : Str)).isSome = false) (opq : PySem.W.nsIn K cStatics "thirdparty.any" = some none) : EG.GTxt P K mg f x C G fI :=
  { gC := PySem.W.mg_of X Gm aC, cls := ⟨nm, q, N, bs, sn, sub, ab, col, dd, k0, k1, k2, k3, k5, xL⟩, sa := sa, noN := nb, iC := iC, tC := tC, kC := kC, exC := eC, tyC := yC,
    al := by
      unfold PySem.W.findIn at fG
      dsimp only at fG
      rw [xG] at fG
      exact fG
    fn := ⟨qual, oc, od, doc, pm, an, cda, cc, ct, osl, p1, p2, q1, q2, q3, q4, q5, q6, r1, r2, r3, r4, lI, cI, hpl, ⟨ccl, cdd, vs, ccs, file, tf, lcd, hvs, hfile⟩, ⟨cl, cld, csl, lcc⟩⟩, sup := PySem.W.mg_none_of X Gm sup, top := top, opq := opq }
theorem fok_number : EG.FOk "number" where
  n1 := by decide
  n2 := by decide
  n3 := by decide
  n4 := by decide
  n5 := by decide
  n6 := by decide
  n7 := by decide
  bind := fun _ _ _ _ _ _ _ _ _ _ _ _ => rfl
theorem fok_bound : EG.FOk "bound" where
  n1 := by decide
  n2 := by decide
  n3 := by decide
  n4 := by decide
  n5 := by decide
  n6 := by decide
  n7 := by decide
  bind := fun _ _ _ _ _ _ _ _ _ _ _ _ => rfl
end VL
/-! E8: the own exception with two fields, line and column. -/
namespace ET
open PySem PySem.W PySem.Calls PyProof.Rows PySem.HandSPX Builtin Builtin.ObjectAttr
open EG (up up_contains kept_off)
def iA (p1 p2 p3 : Pos) : Arguments :=
  { posonlyargs := [], args := [⟨"self", none, p1⟩, ⟨"line", none, p2⟩, ⟨"column", none, p3⟩], vararg := none, kwonlyargs := [], kw_defaults := [], kwarg := none, defaults := [] }
def iB (q1 q2 q3 q4 q7 q5 q6 r1 r2 r3 r4 t1 t2 t3 t4 : Pos) : List Stmt :=
  [.Expr (.Call (.Attribute (.Call (.Name "super" q1) [] [] q2) "__init__" q3) [.Name "line" q4, .Name "column" q7] [] q5) q6, .Assign [.Attribute (.Name "self" r1) "line" r2] (.Name "line" r3) r4, .Assign [.Attribute (.Name "self" t1) "column" t2] (.Name "column" t3) t4]
def iS : Scope :=
  { kind := .function, names := [(Str.ofString "self", .local), (Str.ofString "line", .local), (Str.ofString "column", .local), (Str.ofString "__class__", .free), (Str.ofString "super", .globalImplicit)], isGenerator := false, isCoroutine := false, more := [] }
structure TTxt (prog : Program) (K : Frag) (mg : Str → Option Value) (C G fI : Addr) : Prop where
  gC : mg "BadText" = some (.ref C)
  cls : ∃ nm q N bs sn sub ab col dd k0 k1 k2 k3 k5, K.lookup C = some (excClassObj nm q C N bs (up G) true sn sub ab col dd k0 k1 k2 k3 k5 "Exception.__new__")
  sa : findIn K (.ref C) "__setattr__" = some (some (.builtin "object.__setattr__"))
  noL : findIn K (.ref C) "line" = some none
  noC : findIn K (.ref C) "column" = some none
  iC : findIn K (.ref C) "__init__" = some (some (.ref fI))
  tC : typeIn K (.ref fI) = some (.type "function")
  kC : keepIn K (.ref C) = true
  exC : subIn K (.ref C) (.type "BaseException") = some true
  tyC : typeIn K (.ref C) = some (.type "type")
  al : alongIn K "__init__" (up G) = some (some (.builtin "Exception.__init__"))
  fn : ∃ (qual : Str) (oc : Value) (od : Option Addr) (doc pm : Value) (an : Option Addr) (cda cc : Addr) (ct : Value) (osl : Array (Option Value)) (p1 p2 p3 q1 q2 q3 q4 q7 q5 q6 r1 r2 r3 r4 t1 t2 t3 t4 : Pos),
    K.lookup fI = some ⟨oc, od, .func (ksFn "__init__" qual (iA p1 p2 p3) (iB q1 q2 q3 q4 q7 q5 q6 r1 r2 r3 r4 t1 t2 t3 t4) iS .none .none doc pm an (.ref cda) ct cc), osl⟩ ∧ codeIn K (.ref cda) qual = true ∧
    (∃ pl : Env → Sem Bool, ∀ env : Env, eval (.Call (.Attribute (.Call (.Name "super" q1) [] [] q2) "__init__" q3) [.Name "line" q4, .Name "column" q7] [] q5) env = (do
      let ov ← attributeBase (.Call (.Name "super" q1) [] [] q2) "__init__" env (eval (.Call (.Name "super" q1) [] [] q2) env)
      standAt q3.atName
      let (m, first) ← holding [ov] (getMethod ov "__init__" (pl env))
      callWith q5 m first (backTo q5 (starEach [.Name "line" q4, .Name "column" q7] env)) [])) ∧
    (∃ ccl cdd vs ccs file tf, K.lookup cda = some ⟨ccl, cdd, .fields vs, ccs⟩ ∧ vs[2]? = some (.str file tf) ∧ ((prog.main.file : Str) == file) = true) ∧ ∃ cl cld csl, K.lookup cc = some ⟨cl, cld, .cell (some (.ref C)), csl⟩
  sup : mg "super" = none
  top : (prog.main.scope.names.lookup ("super" : Str)).isSome = false
  opq : nsIn K cStatics "thirdparty.any" = some none
structure InitEnd (h h' : Heap) (x C dx : Addr) (v u : Value) : Prop where
  keep : ∀ b o, b ≠ x → h.get? b = some o → h'.get? b = some o
  obj : ∃ t1 : Addr, h'.get? x = some { cls := .ref C, dict := some dx, data := .fields #[.ref t1, .none, .none, .none, .bool false, .none] }
  dbig : h.objs.size ≤ dx
  dne : dx ≠ x
  ns : h'.Ns1 dx (fun y => if y = Str.ofString "column" then some u else if y = Str.ofString "line" then some v else none)
section
variable {prog : Program} {w : World} {A : Around} {E : Value → Shared → Prop} {R : Result → Shared → Prop} {K : Frag} {mg : Str → Option Value} {C G fI : Addr}
variable {hp : Heap} {g : Array GenState} {d : Drawn} {t : Nat} {os : OsState}
theorem t_osa_old {name : Str} {tk : Tok} {v : Value} {x dx : Addr} {fv : Array Value} {cd : ClassData} {m0 : Str → Option Value} {nl : List Str}
    (X : K.In hp) (hx : hp.get? x = some { cls := .ref C, dict := some dx, data := .fields fv }) (hns : hp.Ns1 dx m0) (hw : Within m0 nl) (hz : nl.length ≤ 1000) (hcd : clsIn K C = some cd) (hm : cd.mro = .ref C :: up G) (hh : cd.hasDict = true)
    (ha : findIn K (.ref C) name = some none)
    (hq : ∀ h' tk', (∀ b o, b ≠ dx → hp.get? b = some o → h'.get? b = some o) → h'.Ns1 dx (fun y => if y = name then some v else m0 y) → R (.ok (.ret .none)) ⟨h', g, d, tk', os⟩) :
    codeAny (model prog w) A (.call (.builtin "object.__setattr__") ⟨[.ref x, .str name tk, v], []⟩) R ⟨hp, g, d, t, os⟩ := by
  obtain ⟨oD, esD, epD, hoD, hdD, _⟩ := hns.count hw
  have In0 : InstAt hp x { cls := .ref C, dict := some dx, data := .fields fv } C (some oD) := ⟨hx, rfl, rfl, hoD⟩
  have SFo := F.store_object
  have cont : cd.mro.contains (.type "object") = true := by
    rw [hm]
    simp only [List.contains_cons, Bool.or_eq_true]
    exact .inr (.inr (by decide +kernel))
  have emp : cd.mro.isEmpty = false := by rw [hm]; rfl
  have isob : Looks (model prog w) hp (isInstance (.ref x) (.type "object")) true := In0.type.andThen (looks_mroIn X (by
    unfold mroIn
    rw [hcd, Option.bind_some, emp, if_neg Bool.false_ne_true, cont]))
  refine codeAny_call_builtin SFo.slot.plain SFo.entry ?_
  refine @check_slot (model prog w) _ _ ⟨hp, g, d, t, os⟩ "object.__setattr__" "object" "__setattr__" (.ref x) [.str name tk, v] [] _ SFo.kind SFo.split isob (SFo.args (.ref x) (.str name tk) v) ?_
  have lmro : Looks (model prog w) hp (mroOf (.ref C)) cd.mro := (looks_clsIn X hcd).andThen .now
  have lst : Looks (model prog w) hp (storeTaker? none) none := .now
  have pass : refuseLoop (.ref x) "__setattr__" cd.mro = pure () := by
    rw [hm, refuseLoop_ref, refuseLoop_ref]
    exact F.store_Exception.passes _
  have lcls : Looks (model prog w) hp (classData C) cd := looks_clsIn X hcd
  rw [osa_eq, refuse_eq]
  refine wpAny_bind (wpAny_bind (In0.type.at (wpAny_bind (lmro.at ?_))))
  rw [pass]
  refine wpAny_pure (wpAny_bind (In0.type.at (wpAny_bind (Looks.at (looks_findIn X ha) (wpAny_bind (lst.at ?_))))))
  show wpAny _ _ (storeInOwnDict (.ref x) (.ref C) (.str name tk) name v false) _ _ _
  obtain ⟨c1, c2, c3, c4, c5, c6, c7, c8, c9, c10, c11⟩ := cd
  dsimp only at hh
  subst hh
  unfold storeInOwnDict ownDictForStores
  repeat (first | with_reducible refine ESX.store_in_old hns hw hz ?_ | with_reducible refine wpAny_loadPart_at hx ?_ | with_reducible refine lcls.at ?_ | wp_step)
  intro h' tk' hn' hs
  exact hq h' tk' (fun b o hb ho => (hs.2 b hb).trans ho) hn'
theorem two_fits (v u : Value) : [v, u].length ≤ sizeLine := by
  rw [sizeLine_eq]
  exact Nat.le_trans (Nat.le_refl 2) (by decide)
theorem t_init {s : Shared} (T : TTxt prog K mg C G fI) {x t0 : Addr} {v u : Value} (X : K.In s.heap) (NG : s.heap.Ns mainGlobals mg) (NB : ∃ mb, s.heap.Ns builtinsNs mb ∧ mb "super" = some (.type "super")) (hlim : s.heap.NoLimit)
    (hx : s.heap.get? x = some (excO C t0)) (hnx : K.lookup x = none) (hroom : A.depth < recursionLimit) (hq : ∀ h' tk dx, InitEnd s.heap h' x C dx v u → R (.ok (.ret .none)) { s with heap := h', toks := tk }) :
    codeAny (model prog w) A (.call (.ref fI) ⟨[.ref x, v, u], []⟩) R s := by
  obtain ⟨qual, oc, od, doc, pm, an, cda, cc, ct, osl, p1, p2, p3, q1, q2, q3, q4, q7, q5, q6, r1, r2, r3, r4, t1, t2, t3, t4, ho, hcd, ⟨pl, hpl⟩, ⟨ccl, cdd, vs, ccs, file, tf, hcode, hvs, hfile⟩, cl, cld, csl, hcell⟩ := T.fn
  obtain ⟨nm, q, N, bs, sn, sub, ab, col, dd, k0, k1, k2, k3, k5, hC⟩ := T.cls
  obtain ⟨mb, b1, b2⟩ := NB
  have hcl : clsIn K C = some { name := nm, bases := bs, mro := .ref C :: up G, ns := N, qualname := q, hasDict := true, slotNames := sn, subclasses := sub, abstract := ab, collection := col, hasDel := false } := by
    unfold clsIn
    rw [hC] <;> rfl
  have inX : ∀ b, (Value.ref C :: up G).contains b = true → mroIn K C b = some true := fun b hb => by
    unfold mroIn
    rw [hcl, Option.bind_some, if_neg (show ¬ (List.isEmpty (Value.ref C :: up G) = true) from Bool.false_ne_true), hb]
  refine ks_codeAny_call_defAt (body := iB q1 q2 q3 q4 q7 q5 q6 r1 r2 r3 r4 t1 t2 t3 t4) (binds := [(Str.ofString "self", .ref x), (Str.ofString "line", v), (Str.ofString "column", u)]) hroom (X _ _ ho) rfl hlim (codeRec_of X hcd) rfl (BindsTo.of_eq rfl) (fun y hy => ?_) (fun y hy => ?_) (fun h₁ hns k => ?_) rfl rfl rfl
  · simp [ksFn, fnX, iS] at hy
    rcases hy with rfl | rfl | rfl | rfl | rfl <;> simp
  · simp at hy
    rcases hy with rfl | rfl | rfl <;> rfl
  have X₁ : K.In h₁ := X.keeps k
  have hx₁ := k _ _ hx
  let bl : Str → Option Value := fun y => [(Str.ofString "self", Value.ref x), (Str.ofString "line", v), (Str.ofString "column", u)].reverse.lookup y
  have lself : [(Str.ofString "self", Value.ref x), (Str.ofString "line", v), (Str.ofString "column", u)].reverse.lookup (Str.ofString "self") = some (.ref x) := rfl
  have lf : [(Str.ofString "self", Value.ref x), (Str.ofString "line", v), (Str.ofString "column", u)].reverse.lookup (Str.ofString "line") = some v := rfl
  have lg : [(Str.ofString "self", Value.ref x), (Str.ofString "line", v), (Str.ofString "column", u)].reverse.lookup (Str.ofString "column") = some u := rfl
  have n5 : iS.names.lookup (Str.ofString "super") = some .globalImplicit := rfl
  have n4 : iS.names.lookup (Str.ofString "__class__") = some .free := rfl
  have n7 : iS.names.lookup (Str.ofString "self") = some .local := rfl
  have nl : iS.names.lookup (Str.ofString "line") = some .local := rfl
  have nc : iS.names.lookup (Str.ofString "column") = some .local := rfl
  have dl : (Str.ofString "line" == ("__debug__" : Str)) = false := by decide
  have dc : (Str.ofString "column" == ("__debug__" : Str)) = false := by decide
  refine ks_wpAt_execs_cons (ks_wpAt_Expr_any (ks_wpAt_MethodCall (ks_wpAt_super_base (ar := ⟨"self", none, p1⟩) n5 n4 rfl rfl (X₁ _ _ ho) rfl rfl rfl (X₁ _ _ hcode) rfl hvs hfile T.top ?_) (hpl _)))
  refine ks_loadName_global rfl n5 (loadGlobal_builtin (NG.keeps k) T.sup (b1.keeps k) b2 ⟨rfl, ?_⟩)
  refine wpAny_loadName_free rfl n4 rfl ⟨_, X₁ _ _ hcell, rfl⟩ ?_
  refine wpAny_loadName_local rfl n7 hns lself ?_
  have hC₁ := X₁ _ _ hC
  refine ks_wpAny_isType_cls hC₁ rfl ⟨rfl, ?_⟩
  refine ks_wpAny_call_super hC₁ rfl hx₁ rfl (fun c e => by cases e) (looks_mroIn X₁ (inX (.ref C) (by simp))) (fun h2 e2 k2 => ?_)
  have X₂ : K.In h2 := X₁.keeps k2
  have hx₂ := k2 _ _ hx₁
  have hxC : x ≠ C := fun z => by
    rw [z] at hnx
    rw [hnx] at hC
    cases hC
  have I2 : InstAt h2 x (excO C t0) C none := ⟨hx₂, rfl, rfl, trivial⟩
  refine ESX.getMethod_super e2 (looks_opaque X₂ T.opq) ((looks_clsIn X₂ hcl).andThen .now) (ESX.drop_own C (up G)) X₂ T.al hxC rfl (I2.type.andThen (looks_mroIn X₂ (inX (.type "Exception") (by
    simp only [List.contains_cons, Bool.or_eq_true]
    exact .inr (.inr (by decide +kernel)))))) ?_
  have k3 : ∀ b o, h2.get? b = some o → (h2.push (ESX.bw x)).get? b = some o := fun b o e => Heap.get?_push_of_some _ e
  have ns3 : (h2.push (ESX.bw x)).Ns s.heap.objs.size (fun y => [(Str.ofString "self", Value.ref x), (Str.ofString "line", v), (Str.ofString "column", u)].reverse.lookup y) := (hns.keeps k2).keeps k3
  refine ESX.callWith_bound (x := x) (spliced_cons (ESX.ldL ns3 lf (spliced_cons (ESX.ldL ns3 lg (spliced_nil ⟨Heap.get?_push_at rfl rfl, ?_⟩) rfl nc dc)) rfl nl dl))
  refine ESX.call_bw (k3 _ _ (k2 _ _ hC₁)) (k3 _ _ hx₂) (Heap.get?_push_at rfl rfl) (two_fits v u) (fun h4 t1 k4 e4 => ?_)
  have X₄ : K.In h4 := kept_off (X₂.keeps k3) hnx k4
  have hL : s.heap.objs.size ≠ x := Nat.ne_of_gt (Heap.lt_size hx)
  have ns4 : h4.Ns s.heap.objs.size (fun y => [(Str.ofString "self", Value.ref x), (Str.ofString "line", v), (Str.ofString "column", u)].reverse.lookup y) := by
    obtain ⟨oL, es, ep, l1, l2⟩ := ns3
    exact ⟨oL, es, ep, k4 _ _ hL l1, l2⟩
  refine ks_wpAt_execs_cons (wpAt_of_wpAny (plainObj_wpAny_Assign_Attribute ?_))
  refine ESX.ldL ns4 lf (ESX.ldL ns4 lself ?_ rfl n7) rfl nl dl
  refine set_plain X₄ (ox := excO C t1) (od := none) ⟨e4, rfl, rfl, trivial⟩ T.sa ?_
  refine EG.g_osa X₄ e4 hcl rfl rfl T.noL (fun h5 tk5 dx k5 dn dne e5 ns5 => ?_)
  have X₅ : K.In h5 := kept_off X₄ hnx k5
  have ns5' : h5.Ns s.heap.objs.size (fun y => [(Str.ofString "self", Value.ref x), (Str.ofString "line", v), (Str.ofString "column", u)].reverse.lookup y) := by
    obtain ⟨oL, es, ep, l1, l2⟩ := ns4
    exact ⟨oL, es, ep, k5 _ _ hL l1, l2⟩
  have grow : s.heap.objs.size < h4.objs.size := by
    obtain ⟨oL, es, ep, l1, l2⟩ := ns4
    exact Heap.lt_size l1
  refine ks_wpAt_execs_cons (wpAt_of_wpAny (plainObj_wpAny_Assign_Attribute ?_))
  refine ESX.ldL ns5' lg (ESX.ldL ns5' lself ?_ rfl n7) rfl nc dc
  obtain ⟨oD, esD, epD, hoD, hdD, _⟩ := ns5.count (ns := [Str.ofString "line"]) (fun y hy => by
    by_cases z : y = Str.ofString "line"
    · simp [z]
    · rw [if_neg z] at hy
      exact absurd rfl hy)
  refine set_plain X₅ (ox := { cls := .ref C, dict := some dx, data := .fields #[.ref t1, .none, .none, .none, .bool false, .none] }) (od := some oD) ⟨e5, rfl, rfl, hoD⟩ T.sa ?_
  refine t_osa_old X₅ e5 ns5 (nl := [Str.ofString "line"]) (fun y hy => by
    by_cases z : y = Str.ofString "line"
    · simp [z]
    · rw [if_neg z] at hy
      exact absurd rfl hy) (by decide) hcl rfl rfl T.noC (fun h6 tk6 k6 ns6 => ?_)
  refine wpAt_of_wpAny (wpAny_execs_nil (hq h6 tk6 dx ⟨fun b o hb e => k6 b o (fun z => ?_) (k5 b o hb (k4 b o hb (k3 b o (k2 b o (k b o e))))), ⟨t1, k6 _ _ dne.symm e5⟩, ?_, dne, ns6⟩))
  · have l1 : b < s.heap.objs.size := Heap.lt_size e
    rw [z] at l1
    exact absurd (Nat.lt_of_lt_of_le (Nat.lt_trans l1 grow) dn) (Nat.lt_irrefl _)
  · exact Nat.le_of_lt (Nat.lt_of_lt_of_le grow dn)
structure Made (h h' : Heap) (e C d : Addr) (v u : Value) : Prop where
  keep : ∀ b o, h.get? b = some o → h'.get? b = some o
  new : h.objs.size ≤ e
  obj : ∃ oe vs, h'.get? e = some oe ∧ oe.cls = .ref C ∧ oe.dict = some d ∧ oe.data = .fields vs ∧ vs[1]? = some .none
  dbig : h.objs.size ≤ d
  dne : d ≠ e
  ns : h'.Ns1 d (fun y => if y = Str.ofString "column" then some u else if y = Str.ofString "line" then some v else none)
theorem t_made {s : Shared} (T : TTxt prog K mg C G fI) {v u : Value} (X : K.In s.heap) (NG : s.heap.Ns mainGlobals mg) (NB : ∃ mb, s.heap.Ns builtinsNs mb ∧ mb "super" = some (.type "super")) (hlim : s.heap.NoLimit) (hroom : A.depth + 1 < recursionLimit)
    (hq : ∀ h' tk e d, Made s.heap h' e C d v u → R (.ok (.ret (.ref e))) { s with heap := h', toks := tk }) : codeAny (model prog w) A (.call (.ref C) ⟨[v, u], []⟩) R s := by
  obtain ⟨nm, q, N, bs, sn, sub, ab, col, dd, k0, k1, k2, k3, k5, hC⟩ := T.cls
  obtain ⟨mb, b1, b2⟩ := NB
  obtain ⟨hp, g, dr, tk, os⟩ := s
  have k : ∀ b o, hp.get? b = some o → ((hp.push (kdv_tup [v, u])).push (excO C hp.objs.size)).get? b = some o := fun b o e => by
    exact Heap.get?_push_of_some _ (Heap.get?_push_of_some _ e)
  have at1 : ((hp.push (kdv_tup [v, u])).push (excO C hp.objs.size)).get? (hp.objs.size + 1) = some (excO C hp.objs.size) := by heap_get
  have off : K.lookup (hp.objs.size + 1) = none := by
    cases e : K.lookup (hp.objs.size + 1) with
    | none => rfl
    | some o =>
      have z : hp.get? (hp.objs.size + 1) = some o := X _ _ e
      have l : hp.objs.size + 1 < hp.objs.size := Heap.lt_size z
      omega
  refine call_own F.excBase_Exception (up_contains G) (X _ _ hC) (looks_findIn X T.iC) (fun self => bind_fn X self T.tC) (two_fits v u) ?_
  refine t_init (s := ⟨(hp.push (kdv_tup [v, u])).push (excO C hp.objs.size), g, dr, tk, os⟩) T (X.keeps k) (NG.keeps k) ⟨mb, b1.keeps k, b2⟩ (hlim.keeps k) at1 off ?_ fun h' tk' dx I => ?_
  · show A.depth + 1 < recursionLimit
    exact hroom
  · obtain ⟨t1, e1⟩ := I.obj
    have big : hp.objs.size + 1 + 1 ≤ dx := by
      have q := I.dbig
      simpa only [Heap.size_push] using q
    have old : ∀ b o, hp.get? b = some o → h'.get? b = some o := fun b o e => by
      have l : b < hp.objs.size := Heap.lt_size e
      exact I.keep b o (Nat.ne_of_lt (Nat.lt_succ_of_lt l)) (k b o e)
    exact ⟨rfl, hq h' tk' (hp.objs.size + 1) dx ⟨old, Nat.le_succ _, ⟨_, _, e1, rfl, rfl, rfl, rfl⟩, (by show hp.objs.size ≤ dx; omega), I.dne, I.ns⟩⟩
end
end ET
/-! E9: exceptions that are values: made, asked of their class, their fields read. -/
namespace VL
open PySem PySem.Spec L2 PyProof.Rows
section
variable {K : PySem.W.Frag} {C D G : Addr} {n m : String}
/-- what is known of the own exception class n at C, over the class at G -/
structure Kx (K : PySem.W.Frag) (G : Addr) (n : String) (C : Addr) : Prop where
  nm : PySem.W.nsIn K mainGlobals (Str.ofString n) = some (some (.ref C))
  cls : ∃ q N bs hd sn sub ab col dd k0 k1 k2 k3 k5 nid, K.lookup C = some (excClassObj (Str.ofString n) q C N bs (if n = "GridError" then ESX.exTail else EG.up G) hd sn sub ab col dd k0 k1 k2 k3 k5 nid)
  ga : PySem.W.findIn K (.ref C) "__getattribute__" = some (some (.builtin "BaseException.__getattribute__"))
  gg : PySem.W.findIn K (.ref C) "__getattr__" = some none
  ca : PySem.W.findIn K (.ref C) "__class__" = some (some (.builtin "object.__class__"))
structure Kxs (K : PySem.W.Frag) (ca : String → Addr) (names : List String) : Prop where
  all : ∀ n ∈ names, Kx K (ca "GridError") n (ca n)
  base : "GridError" ∈ names
  inj : ∀ n ∈ names, ∀ m ∈ names, Str.ofString n = Str.ofString m → n = m
  hn : PySem.W.specialIn K (.builtin "object.__class__") "__get__" = some (some (.builtin "getset_descriptor.__get__"))
  ht : PySem.W.takesIn K (.builtin "object.__class__") = some true
theorem Kx.mro (h : Kx K G n C) (b : Value) : PySem.W.mroIn K C b = some ((Value.ref C :: (if n = "GridError" then ESX.exTail else EG.up G)).contains b) := by
  obtain ⟨q, N, bs, hd, sn, sub, ab, col, dd, k0, k1, k2, k3, k5, nid, e⟩ := h.cls
  unfold PySem.W.mroIn PySem.W.clsIn
  rw [e]
  rfl
theorem Kx.isCls (h : Kx K G n C) : (PySem.W.clsIn K C).isSome = true := by
  obtain ⟨q, N, bs, hd, sn, sub, ab, col, dd, k0, k1, k2, k3, k5, nid, e⟩ := h.cls
  unfold PySem.W.clsIn
  rw [e]
  rfl
theorem Kx.typ (h : Kx K G n C) : PySem.W.typeIn K (.ref C) = some (.type "type") := by
  obtain ⟨q, N, bs, hd, sn, sub, ab, col, dd, k0, k1, k2, k3, k5, nid, e⟩ := h.cls
  show (K.lookup C).map (·.cls) = _
  rw [e]
  rfl
theorem Kx.ty (h : Kx K G n C) (T : String) : PySem.W.mroIn K C (.type T) = some (ESX.exTail.contains (.type T)) := by
  rw [h.mro]
  split
  · rw [List.contains_cons]
    rfl
  · rw [List.contains_cons, EG.up_contains]
    rfl
theorem Kx.exc (h : Kx K G n C) : PySem.W.subIn K (.ref C) (.type "BaseException") = some true := (h.ty "BaseException").trans (by decide +kernel)
theorem Kx.obj (h : Kx K G n C) : PySem.W.mroIn K C (.type "object") = some true := (h.ty "object").trans (by decide +kernel)
section
variable {ca : String → Addr} {names : List String}
theorem Kxs.apart (S : Kxs K ca names) (hn : n ∈ names) (hm : m ∈ names) (h : ca n = ca m) : n = m := by
  obtain ⟨q, N, bs, hd, sn, sub, ab, col, dd, k0, k1, k2, k3, k5, nid, e⟩ := (S.all n hn).cls
  obtain ⟨q', N', bs', hd', sn', sub', ab', col', dd', k0', k1', k2', k3', k5', nid', e'⟩ := (S.all m hm).cls
  rw [h, e'] at e
  have e2 := Option.some.inj e
  have e3 := congrArg Obj.data e2
  have e4 := Data.cls.inj e3
  have e5 := congrArg ClassData.name e4
  exact S.inj n hn m hm e5.symm
theorem Kxs.sub (S : Kxs K ca names) (hn : n ∈ names) (hm : m ∈ names) : PySem.W.subIn K (.ref (ca n)) (.ref (ca m)) = some (n == m || m == "GridError") := by
  show PySem.W.mroIn K (ca n) (.ref (ca m)) = _
  rw [(S.all n hn).mro]
  congr 1
  have ref_eq : ∀ {a b : Addr}, (Value.ref a == Value.ref b) = decide (a = b) := fun {a b} => by
    by_cases e : a = b
    · subst e; simp
    · simp [e]
  by_cases e : n = m
  · subst e
    simp
  · have ne : ca m ≠ ca n := fun z => e (S.apart hn hm z.symm)
    rw [List.contains_cons, ref_eq, decide_eq_false ne]
    by_cases hmG : m = "GridError"
    · subst hmG
      rw [if_neg e, List.contains_cons, ref_eq]
      simp
    · have ne2 : ca m ≠ ca "GridError" := fun z => hmG (S.apart hm S.base z)
      have r : (n == m || m == "GridError") = false := by simp [e, hmG]
      rw [r]
      have tl : ESX.exTail.contains (Value.ref (ca m)) = false := by
        show List.contains [Value.type "Exception", Value.type "BaseException", Value.type "object"] (Value.ref (ca m)) = false
        simp
      split
      · rw [tl]; rfl
      · rw [List.contains_cons, ref_eq, decide_eq_false ne2]
        show (false || (false || ESX.exTail.contains (Value.ref (ca m)))) = false
        rw [tl]
        rfl
theorem Kxs.kit (S : Kxs K ca names) (hn : n ∈ names) (hm : m ∈ names) : PySem.W.kitOne K (.ref (ca n)) (.ref (ca m)) = some (n == m || m == "GridError") := by
  unfold PySem.W.kitOne
  split
  · rename_i e
    have e' : ca n = ca m := by simpa using e
    have := S.apart hn hm e'
    subst this
    simp
  · exact kitCls_of (S.all m hm).isCls (S.all m hm).typ (S.sub hn hm)
theorem Kxs.exm (S : Kxs K ca names) (hn : n ∈ names) (hm : m ∈ names) : PySem.W.exmOne K (.ref (ca n)) (.ref (ca m)) = some (n == m || m == "GridError") := exmOne_of (S.all m hm).exc (S.all m hm).isCls (S.all m hm).typ (S.sub hn hm)
def bExc : List String := ["Exception", "ValueError", "LookupError", "ArithmeticError", "TypeError", "RuntimeError"]
theorem bExc_ok : (bExc.all fun T => PySem.W.kitMeta T && (ESX.exTail.contains (.type T) == (T == "Exception"))) = true := by decide +kernel
theorem Kxs.kitB (S : Kxs K ca names) (hn : n ∈ names) {T : String} (hT : T ∈ bExc) : PySem.W.kitOne K (.ref (ca n)) (.type T) = some (T == "Exception") := by
  have h := List.all_eq_true.mp bExc_ok T hT
  simp only [Bool.and_eq_true, beq_iff_eq] at h
  have e := (S.all n hn).ty T
  rw [h.2] at e
  unfold PySem.W.kitOne
  split
  · rename_i z
    simp at z
  · show (if PySem.W.kitMeta T = true then PySem.W.subIn K (.ref (ca n)) (.type T) else none) = _
    rw [if_pos h.1]
    exact e
end
end
/-! ### isinstance of an exception that is a value -/
structure KxI (K : PySem.W.Frag) (C : Addr) : Prop where
  cl : (PySem.W.clsIn K C).isSome = true
  ga : PySem.W.findIn K (.ref C) "__getattribute__" = some (some (.builtin "BaseException.__getattribute__"))
  gg : PySem.W.findIn K (.ref C) "__getattr__" = some none
  ex : PySem.W.subIn K (.ref C) (.type "BaseException") = some true
  ca : PySem.W.findIn K (.ref C) "__class__" = some (some (.builtin "object.__class__"))
  hn : PySem.W.specialIn K (.builtin "object.__class__") "__get__" = some (some (.builtin "getset_descriptor.__get__"))
  ht : PySem.W.takesIn K (.builtin "object.__class__") = some true
  hm : PySem.W.mroIn K C (.type "object") = some true
theorem Kxs.is {K : PySem.W.Frag} {ca : String → Addr} {names : List String} (S : Kxs K ca names) {n : String} (hn : n ∈ names) : KxI K (ca n) :=
  ⟨(S.all n hn).isCls, (S.all n hn).ga, (S.all n hn).gg, (S.all n hn).exc, (S.all n hn).ca, S.hn, S.ht, (S.all n hn).obj⟩
section
variable {X : Cx}
theorem exc_at {a C : Addr} {dd : Option Addr} {fs : List (Str × V)} {pins : List (Addr × Obj)} {σ : L2.St} {H : Hp} {s : Shared} (I : Inv X pins σ H s) (ha : H a = some (exO a C dd)) (hx : XdAt H dd fs) :
    ∃ (oe : Obj) (od : Option Obj), PySem.W.InstAt s.heap a oe C od ∧ oe.dict = dd := by
  obtain ⟨⟨o, vs, e, hc, hd, hdat⟩, _, _⟩ := I.hok a _ ha
  have nc : PySem.W.notCls o := by unfold PySem.W.notCls; rw [hdat] <;> rfl
  cases dd with
  | none => exact ⟨o, none, ⟨e, hc, nc, by rw [hd]; trivial⟩, hd⟩
  | some d =>
    obtain ⟨mA, hns, hr⟩ : ObjOk X.prog X.w H s.heap d (.xd fs) := I.hok d _ hx
    obtain ⟨od, ho, hl⟩ := lookIn_ns hns
    exact ⟨o, some od, ⟨e, hc, nc, by rw [hd]; exact ho⟩, hd⟩
def rIsX (K : PySem.W.Frag) : List V → Hp → VK → Prop := fun xs H Q => ∃ (a C : Addr) (dd : Option Addr) (fs : List (Str × V)) (c : V) (u : Value) (b : Bool), xs = [.ref a, c] ∧ H a = some (exO a C dd) ∧ XdAt H dd fs ∧ KxI K C ∧ ClsV c u ∧ PySem.W.kitOne K (.ref C) u = some b ∧ Q (.bl b) H
theorem call_isX : CallR X (.builtin "isinstance") (rIsX X.K) := by
  intro pins s σ H xs us Q I r h
  obtain ⟨a, C, dd, fs, c, u, b, rfl, ha, hx, kx, k, e, q⟩ := h
  obtain ⟨u1, u2, rfl, r1, r2⟩ := vals2 r
  cases (show u1 = Value.ref a from r1)
  obtain ⟨oe, od, J, _⟩ := exc_at I ha hx
  have e2 := k.eq r2
  subst e2
  have Z := PySem.W.kitx_exc (x := a) (ox := oe) (od := od) kx.cl kx.ga kx.gg kx.ex kx.ca kx.hn kx.ht kx.hm
  exact PySem.W.kia_one Z I.kIn J e (fun z => nomatch z) fun tk => ⟨.bl b, H, I.tok tk, rfl, q⟩
/-! ### a field -/
structure KxF (K : PySem.W.Frag) (C : Addr) (f : Str) : Prop where
  ga : PySem.W.findIn K (.ref C) "__getattribute__" = some (some (.builtin "BaseException.__getattribute__"))
  gg : PySem.W.findIn K (.ref C) "__getattr__" = some none
  ex : PySem.W.subIn K (.ref C) (.type "BaseException") = some true
  hd : PySem.W.hasDictIn K C = true
  no : PySem.W.findIn K (.ref C) f = some none
def tFldX (K : PySem.W.Frag) (f : Str) (te : TE) : TE := fun σ H Q => te σ H fun x H1 => ∃ (a C dd : Addr) (fs : List (Str × V)) (v : V), x = .ref a ∧ H1 a = some (exO a C (some dd)) ∧ H1 dd = some (.xd fs) ∧ fs.lookup f = some v ∧ KxF K C f ∧ Q v H1
theorem pe_fldX {e : Expr} {te : TE} {f : Str} {pos : Pos} (he : PE X e te) (hb : attributeBase e f X.env (eval e X.env) = eval e X.env := by rfl) : PE X (.Attribute e f pos) (tFldX X.K f te) := by
  refine ⟨fun pins s σ H Q I h => ?_⟩
  refine attr_of hb (thn (he.run pins s σ H _ I h) fun u s1 hh => ?_)
  obtain ⟨x, H1, I1, rx, a, C, dd, fs, v, ex, ha, hd, hl, kf, q⟩ := hh
  subst ex
  obtain rfl : u = Value.ref a := rx
  obtain ⟨⟨o, vs, e0, hc, hdd, hdat⟩, _, _⟩ := I1.hok a _ ha
  have nc : PySem.W.notCls o := by unfold PySem.W.notCls; rw [hdat] <;> rfl
  obtain ⟨mA, hns, hr⟩ : ObjOk X.prog X.w H1 s1.heap dd (.xd fs) := I1.hok dd _ hd
  obtain ⟨od, ho, hlk⟩ := lookIn_ns hns
  obtain ⟨w, hw, rw'⟩ := RelO.some_of (v := v) (o := mA f) (by rw [← hl]; exact hr f)
  have J : PySem.W.InstAt s1.heap a o C (some od) := ⟨e0, hc, nc, by rw [hdd]; exact ho⟩
  exact HandSPX.exc_get I1.kIn J kf.ga kf.gg kf.ex (PySem.W.findObj_own kf.hd kf.no rfl (by rw [hlk, hw])) (handed_of rw') ⟨v, H1, I1.tok _, rw', q⟩
/-! ### making one -/
def tMk0 (C : Addr) : TE := fun _ H Q => ∀ e, H e = none → Q (.ref e) (upd H e (exO e C none))
theorem exO_okV {P : Program} {w : World} {H : Hp} {h : Heap} {a C : Addr} {dd : Option Addr} {o : Obj} {vs : Array Value} (e : h.get? a = some o) (c : o.cls = .ref C) (d : o.dict = dd) (dat : o.data = .fields vs) : ObjOk P w H h a (exO a C dd) :=
  ⟨⟨o, vs, e, c, d, dat⟩, ⟨o, e⟩, fun _ _ ⟨o', v', q, r⟩ k => ⟨o', v', k o' q, r⟩⟩
theorem pe_mk0 {C : Addr} {bmB : List Value} {B newId initId : String} {x : Str} {p pos : Pos} (F : ExcBaseFacts B newId initId bmB) (q : PySem.W.excIn X.K C bmB newId = true) (gC : X.mg x = some (.ref C)) (kC : PySem.W.keepIn X.K (.ref C) = true) (hg : Gl X x)
    (hdb : (x == ("__debug__" : Str)) = false := by decide) : PE X (.Call (.Name x p) [] [] pos) (tMk0 C) := by
  refine ⟨fun pins s σ H Q I h => ?_⟩
  refine wpAny_Call_Name_kw (ld_glob I hg gC ?_ hdb)
  refine PySem.W.callWith_K0 I.kIn kC ?_
  show wpAny _ _ (call (.ref C) []) _ _ _
  obtain ⟨bm, N, nm, qn, bs, hdct, sn, sub, ab, col, dd, k0, k1, k2, k3, k5, mN, hC, hN, hni, T⟩ := exc_obj I.kIn q
  refine wpAny_call_exc_subT F T hC hN hni (fun h' a hm => ?_) (by show 0 ≤ sizeLine; omega)
  have hn : H a = none := I.hok.gone hm.new
  obtain ⟨t, ht, _, _⟩ := hm.there
  exact ⟨.ref a, upd H a (exO a C none), I.laidN hm.keeps hm.new hn (exO_okV ht rfl rfl rfl), rfl, h a hn⟩
theorem pmk_0 {C : Addr} {bmB : List Value} {B newId initId : String} {x : Str} {p pos : Pos} (F : ExcBaseFacts B newId initId bmB) (q : PySem.W.excIn X.K C bmB newId = true) (gC : X.mg x = some (.ref C)) (kC : PySem.W.keepIn X.K (.ref C) = true) (r : Raises X (.ref C)) (hg : Gl X x)
    (hdb : (x == ("__debug__" : Str)) = false := by decide) : PMk X (.Call (.Name x p) [] [] pos) (fun _ H Q => Q (.ref C) none H) := by
  intro pins s σ H Q I h
  refine wpAny_Call_Name_kw (ld_glob I hg gC ?_ hdb)
  refine PySem.W.callWith_K0 I.kIn kC ?_
  show wpAny _ _ (call (.ref C) []) _ _ _
  obtain ⟨bm, N, nm, qn, bs, hdct, sn, sub, ab, col, dd, k0, k1, k2, k3, k5, mN, hC, hN, hni, T⟩ := exc_obj I.kIn q
  refine wpAny_call_exc_subT F T hC hN hni (fun h' e hm => ?_) (by show 0 ≤ sizeLine; omega)
  exact mk_of I hm r h (I.hok.gone hm.new)
def tMkX (C : Addr) (fsn : List Str) (ta : TA) : TE := fun σ H Q => ta σ H fun vs H1 => vs.length = fsn.length ∧ ∀ d e, H1 d = none → H1 e = none → d ≠ e → Q (.ref e) (upd (upd H1 d (.xd (fsn.zip vs))) e (exO e C (some d)))
/-- the two objects laid -/
theorem laid2 {pins : List (Addr × Obj)} {σ : L2.St} {H1 : Hp} {hp h' : Heap} {g : Array GenState} {dr : Drawn} {tk tk' : Nat} {os : OsState} {e d C : Addr} {oe : Obj} {fv : Array Value} {fs : List (Str × V)} {mA : Str → Option Value} (I1 : Inv X pins σ H1 ⟨hp, g, dr, tk, os⟩)
    (keep : ∀ b o, hp.get? b = some o → h'.get? b = some o) (new : hp.objs.size ≤ e) (hoe : h'.get? e = some oe) (hc : oe.cls = .ref C) (hd : oe.dict = some d) (hdat : oe.data = .fields fv) (dbig : hp.objs.size ≤ d) (dne : d ≠ e) (ns : h'.Ns1 d mA) (rel : ∀ y, RelO (fs.lookup y) (mA y)) :
    Inv X pins σ (upd (upd H1 d (.xd fs)) e (exO e C (some d))) ⟨h', g, dr, tk', os⟩ ∧ H1 d = none ∧ H1 e = none := by
  obtain ⟨G', g1, g2⟩ := restrict h' fun b => decide (b ≠ e)
  have gk : ∀ b, b ≠ e → G'.get? b = h'.get? b := fun b hb => g1 b (decide_eq_true hb)
  have ge : G'.get? e = none := g2 e (by simp)
  have old : ∀ b o, hp.get? b = some o → G'.get? b = some o := fun b o q => by
    have l : b < hp.objs.size := Heap.lt_size q
    rw [gk b (Nat.ne_of_lt (Nat.lt_of_lt_of_le l new))]
    exact keep b o q
  have ob : ObjOk X.prog X.w (upd H1 d (.xd fs)) G' d (.xd fs) := ⟨_, ns.at (fun o q => (gk d dne).trans q), rel⟩
  have J : Inv X pins σ (upd H1 d (.xd fs)) ⟨G', g, dr, tk', os⟩ := I1.laid (t' := tk') old dbig ob
  have he : upd H1 d (.xd fs) e = none := by
    rw [upd_ne dne.symm]
    exact I1.hok.fresh new
  refine ⟨J.laidN (h' := h') (t' := tk') (fun b o q => ?_) ge he (exO_okV hoe hc hd hdat), I1.hok.fresh dbig, I1.hok.fresh new⟩
  by_cases hb : b = e
  · have q' : G'.get? b = some o := q
    rw [hb, ge] at q'
    cases q'
  · exact (gk b hb).symm.trans q
theorem pe_mk1 {C G fI : Addr} {f xn : Str} {a : Expr} {ta : TA} {p pos : Pos} {k : Nat} (T : EG.GTxt X.prog X.K X.mg f xn C G fI) (ok : EG.FOk f) (hr : Room k X.A) (ha : PA X [a] ta) (hg : Gl X xn) (hdb : (xn == ("__debug__" : Str)) = false := by decide)
    (he : starEach (a :: []) X.env = (false, eval a X.env) :: starEach [] X.env := by rfl) (hpl : (backTo pos (starEach [] X.env)).any (·.1) = false := by rfl) : PE X (.Call (.Name xn p) [a] [] pos) (tMkX C [f] ta) := by
  refine ⟨fun pins s σ H Q I h => ?_⟩
  refine wpAny_Call_Name_kw (ld_glob I hg T.gC ?_ hdb)
  refine PySem.W.callWith_K (h₀ := X.base) I.ok.mod.kin T.kC (thn (ha.run pos pins s σ H _ I h) fun us s1 hh => ?_) he hpl
  obtain ⟨vs, H1, I1, r1, hl, q1⟩ := hh
  refine ⟨I1.kIn, ?_⟩
  cases r1 with
  | nil => simp at hl
  | cons rv rn =>
    rename_i v v' us1 us'
    cases rn with
    | cons _ _ => simp at hl
    | nil =>
      show wpAny _ _ (call (.ref C) [v']) _ _ _
      have hlim := I1.nolimit
      obtain ⟨mb, m1, m2⟩ := I1.mod.blt
      have NG := I1.mod.glob.keeps I1.bk
      have NB := m1.keeps I1.bk
      have bs : mb "super" = some (.type "super") := (m2 "super" (by decide)).trans (by decide +kernel)
      obtain ⟨hp, g, dr, tk, os⟩ := s1
      refine wpAny_call (EG.g_made T ok I1.kIn NG ⟨mb, NB, bs⟩ hlim (by have := hr.dp; omega) fun h' tk' e d M => ?_)
      obtain ⟨oe, fv, hoe, hc, hd, hdat, h1⟩ := M.obj
      obtain ⟨J, nd, ne⟩ := laid2 (tk' := tk') (fs := [(f, v)]) I1 M.keep M.new hoe hc hd hdat M.dbig M.dne M.ns (fun y => relO_one rv y)
      exact ⟨.ref e, _, J, rfl, q1 d e nd ne M.dne⟩
theorem relO_two {v u : V} {v' u' : Value} (r : RelV v v') (s : RelV u u') (y : Str) : RelO (List.lookup y [(Str.ofString "line", v), (Str.ofString "column", u)]) (if y = Str.ofString "column" then some u' else if y = Str.ofString "line" then some v' else none) := by
  by_cases h1 : y = Str.ofString "column"
  · subst h1
    rw [if_pos rfl]
    have q : List.lookup (Str.ofString "column") [(Str.ofString "line", v), (Str.ofString "column", u)] = some u := rfl
    rw [q]
    exact s
  · rw [if_neg h1]
    by_cases h2 : y = Str.ofString "line"
    · subst h2
      rw [if_pos rfl]
      have q : List.lookup (Str.ofString "line") [(Str.ofString "line", v), (Str.ofString "column", u)] = some v := rfl
      rw [q]
      exact r
    · rw [if_neg h2]
      have q1 : (y == Str.ofString "line") = false := by simpa using h2
      have q2 : (y == Str.ofString "column") = false := by simpa using h1
      have q : List.lookup y [(Str.ofString "line", v), (Str.ofString "column", u)] = none := by simp [List.lookup, q1, q2]
      rw [q]
      trivial
theorem pe_mk2 {C G fI : Addr} {a b : Expr} {ta : TA} {p pos : Pos} {k : Nat} (T : ET.TTxt X.prog X.K X.mg C G fI) (hr : Room k X.A) (ha : PA X [a, b] ta) (hg : Gl X "BadText")
    (he : starEach (a :: [b]) X.env = (false, eval a X.env) :: starEach [b] X.env := by rfl) (hpl : (backTo pos (starEach [b] X.env)).any (·.1) = false := by rfl) : PE X (.Call (.Name "BadText" p) [a, b] [] pos) (tMkX C ["line", "column"] ta) := by
  refine ⟨fun pins s σ H Q I h => ?_⟩
  refine wpAny_Call_Name_kw (ld_glob I hg T.gC ?_ (by decide))
  refine PySem.W.callWith_K (h₀ := X.base) I.ok.mod.kin T.kC (thn (ha.run pos pins s σ H _ I h) fun us s1 hh => ?_) he hpl
  obtain ⟨vs, H1, I1, r1, hl, q1⟩ := hh
  refine ⟨I1.kIn, ?_⟩
  obtain ⟨v, u, rfl⟩ : ∃ v u, vs = [v, u] := by
    match vs, hl with
    | [v, u], _ => exact ⟨v, u, rfl⟩
  obtain ⟨v', u', rfl, rv, ru⟩ := vals2 r1
  show wpAny _ _ (call (.ref C) [v', u']) _ _ _
  have hlim := I1.nolimit
  obtain ⟨mb, m1, m2⟩ := I1.mod.blt
  have NG := I1.mod.glob.keeps I1.bk
  have NB := m1.keeps I1.bk
  have bs : mb "super" = some (.type "super") := (m2 "super" (by decide)).trans (by decide +kernel)
  obtain ⟨hp, g, dr, tk, os⟩ := s1
  refine wpAny_call (ET.t_made T I1.kIn NG ⟨mb, NB, bs⟩ hlim (by have := hr.dp; omega) fun h' tk' e d M => ?_)
  obtain ⟨oe, fv, hoe, hc, hd, hdat, h1⟩ := M.obj
  obtain ⟨J, nd, ne⟩ := laid2 (tk' := tk') (fs := [(Str.ofString "line", v), (Str.ofString "column", u)]) I1 M.keep M.new hoe hc hd hdat M.dbig M.dne M.ns (fun y => relO_two rv ru y)
  exact ⟨.ref e, _, J, rfl, q1 d e nd ne M.dne⟩
end
end VL
/-! E10: the value layer's rules for exceptions that are values, for lists put together; the caught one's fields. -/
namespace VL
open PySem PySem.Spec L2
section
variable {P : Cz} {fl fl1 fl2 lv : List Nat} {names : List String} {n m : String} {K : PySem.W.Frag}
theorem live_exo {H : Hp} {p C : Addr} {dd : Option Addr} : Live (upd H p (exO p C dd)) p := .inr (.inr (.inr (.inl ⟨_, upd_same⟩)))
theorem re_mk0 (h : Kxs P.K P.ca names) (hn : n ∈ names) : RE P lv fl (tMk0 (P.ca n)) (eC (.exc n [])) .own fl := by
  refine ⟨SubF.refl, fun σ env H Fs r env' S he Q hQ => ?_⟩
  cases he
  intro e hne
  refine hQ (.ref e) [e] _ Fs (S.grow (upd_keep hne)) (Step.grow (upd_keep hne)) (.exc (dd := none) upd_same (h.all n hn).nm rfl) (TOK.fresh S (by simp) fun b hb => ?_) fun b hb => ?_
  · have : b = e := by simpa using hb
    subst this
    exact ⟨hne, live_exo⟩
  · have : b = e := by simpa using hb
    subst this
    exact .inl hne
def eMkX (n : String) (fsn : List Str) (av : Env → Res (List D)) : Ev := fun env => bindM (av env) fun ds e => match D.svs ds with
  | some vs => if vs.length = fsn.length then some (.ok (.exc n (fsn.zip vs)), e) else none
  | none => none
theorem re_mkX {ta : TA} {av : Env → Res (List D)} {ks : List (Option Nat)} {al : AL} {fsn : List Str} (h : Kxs P.K P.ca names) (hn : n ∈ names) (ha : RA P lv fl ta av ks al fl1) (hk : ks.all Option.isNone = true := by rfl) : RE P lv fl (tMkX (P.ca n) fsn ta) (eMkX n fsn av) .own fl1 := by
  refine ⟨ha.1, fun σ env H Fs r env' S he Q hQ => ?_⟩
  refine ha.bind S he hQ.ex _ fun ds e1 he vs F H1 Fs1 S1 st av tk og => ?_
  obtain ⟨rl, en⟩ := av.rpl hk
  split at he
  · rename_i us hus
    split at he
    · rename_i hl
      cases he
      obtain ⟨rfl, _, _⟩ := rl.svs hus
      refine ⟨hl, fun d e hd hne dne => ?_⟩
      have h1 : upd H1 d (.xd (fsn.zip vs)) e = none := by
        rw [upd_ne dne.symm]
        exact hne
      have kp : ∀ b o, H1 b = some o → upd (upd H1 d (.xd (fsn.zip vs))) e (exO e (P.ca n) (some d)) b = some o := fun b o q => upd_keep h1 b o (upd_keep hd b o q)
      have hxd : upd (upd H1 d (.xd (fsn.zip vs))) e (exO e (P.ca n) (some d)) d = some (.xd (fsn.zip vs)) := by
        rw [upd_ne dne]
        exact upd_same
      refine hQ (.ref e) [e, d] _ Fs1 (S1.grow kp) (st.trans (Step.grow kp) ha.1 fun _ z => z) (.exc (dd := some d) upd_same (h.all n hn).nm hxd) (TOK.fresh S1 (by simpa using dne.symm) fun b hb => ?_) fun b hb => ?_
      · simp at hb
        rcases hb with rfl | rfl
        · exact ⟨hne, live_exo⟩
        · exact ⟨hd, .inr (.inr (.inr (.inr ⟨_, hxd⟩)))⟩
      · simp at hb
        rcases hb with rfl | rfl
        · exact .inl (st.back0 hne)
        · exact .inl (st.back0 hd)
    · cases he
  · cases he
def dIsX (names : List String) (m : String) : D → Option D
  | .exc n _ => if names.contains n then some (.bl (n == m || m == "GridError")) else none
  | _ => none
theorem Rp.excInv {H : Hp} {v : V} {n : String} {fs : List (Str × V)} {F : List Addr} (r : Rp K H v (.exc n fs) F) : ∃ a C dd, v = .ref a ∧ H a = some (exO a C dd) ∧ PySem.W.nsIn K mainGlobals (Str.ofString n) = some (some (.ref C)) ∧ XdAt H dd fs := by
  cases r with
  | exc a b c => exact ⟨_, _, _, rfl, a, b, c⟩
theorem Kxs.cls_eq {ca : String → Addr} (S : Kxs K ca names) (hn : n ∈ names) {C : Addr} (h : PySem.W.nsIn K mainGlobals (Str.ofString n) = some (some (.ref C))) : C = ca n := by
  rw [(S.all n hn).nm] at h
  cases h
  rfl
theorem os_isX {ca : String → Addr} (S : Kxs K ca names) (hm : m ∈ names) : OpS1 K (fun x => rIsX K [x, .ref (ca m)]) (dIsX names m) := by
  intro H x dx d Fx Q rx e q
  unfold dIsX at e
  split at e
  · rename_i n fs
    obtain ⟨hn, rfl⟩ := iteS e
    have hn : n ∈ names := by simpa using hn
    obtain ⟨a, C, dd, rfl, ha, hC, hx⟩ := rx.excInv
    have := S.cls_eq hn hC
    subst this
    exact ⟨a, _, dd, fs, _, _, _, rfl, ha, hx, S.is hn, .own _, S.kit hn hm, fin0 (.bl _) q⟩
  · cases e
theorem re_isX {ta : TE} {ea : Ev} {al : AL} (S : Kxs P.K P.ca names) (hm : m ∈ names) (ha : RE P lv fl ta ea al fl1) : RE P lv fl (tCB (rIsX P.K) (tCons ta (tCons (tC (.ref (P.ca m))) tNil))) (eOp1 (dIsX names m) ea) .own fl1 := re_op1 (r := fun x => rIsX P.K [x, .ref (P.ca m)]) (os_isX S hm) ha
def dIsB (names : List String) (T : String) : D → Option D
  | .exc n _ => if names.contains n && bExc.contains T then some (.bl (T == "Exception")) else none
  | _ => none
theorem os_isXB {ca : String → Addr} {T : String} (S : Kxs K ca names) : OpS1 K (fun x => rIsX K [x, .ty T]) (dIsB names T) := by
  intro H x dx d Fx Q rx e q
  unfold dIsB at e
  split at e
  · rename_i n fs
    obtain ⟨hn, rfl⟩ := iteS e
    simp only [Bool.and_eq_true] at hn
    have hT : T ∈ bExc := by simpa using hn.2
    have hn : n ∈ names := by simpa using hn.1
    obtain ⟨a, C, dd, rfl, ha, hC, hx⟩ := rx.excInv
    have := S.cls_eq hn hC
    subst this
    exact ⟨a, _, dd, fs, _, _, _, rfl, ha, hx, S.is hn, .ty _, S.kitB hn hT, fin0 (.bl _) q⟩
  · cases e
theorem re_isXB {ta : TE} {ea : Ev} {al : AL} {T : String} (S : Kxs P.K P.ca names) (ha : RE P lv fl ta ea al fl1) : RE P lv fl (tCB (rIsX P.K) (tCons ta (tCons (tC (.ty T)) tNil))) (eOp1 (dIsB names T) ea) .own fl1 := re_op1 (r := fun x => rIsX P.K [x, .ty T]) (os_isXB S) ha
/-- fields -/
def vD : V → Option D
  | .non => some .non
  | .bl b => some (.bl b)
  | .int i => some (.int i)
  | .str s => some (.str s)
  | _ => none
theorem vD_rp {H : Hp} {v : V} {d : D} (h : vD v = some d) : Rp K H v d [] := by
  cases v <;> cases h
  · exact .non
  · exact .bl _
  · exact .int _
  · exact .str _
structure Kfs (K : PySem.W.Frag) (ca : String → Addr) (pairs : List (String × Str)) : Prop where
  hd : ∀ p ∈ pairs, PySem.W.hasDictIn K (ca p.1) = true
  no : ∀ p ∈ pairs, PySem.W.findIn K (.ref (ca p.1)) p.2 = some none
def inP (pairs : List (String × Str)) (n : String) (f : Str) : Bool := pairs.any fun p => p.1 == n && p.2 == f
theorem inP_mem {pairs : List (String × Str)} {n : String} {f : Str} (h : inP pairs n f = true) : (n, f) ∈ pairs := by
  unfold inP at h
  obtain ⟨p, hp, e⟩ := List.any_eq_true.mp h
  simp only [Bool.and_eq_true, beq_iff_eq] at e
  obtain ⟨rfl, rfl⟩ := e
  exact hp
def dFldX (names : List String) (pairs : List (String × Str)) (f : Str) : D → Option D
  | .exc n fs => if names.contains n && inP pairs n f then (fs.lookup f).bind vD else none
  | _ => none
theorem os_fldX {ca : String → Addr} {pairs : List (String × Str)} {f : Str} (S : Kxs K ca names) (Fk : Kfs K ca pairs) : OpS1 K (fun x H Q => ∃ (a C dd : Addr) (fs : List (Str × V)) (v : V), x = .ref a ∧ H a = some (exO a C (some dd)) ∧ H dd = some (.xd fs) ∧ fs.lookup f = some v ∧ KxF K C f ∧ Q v H) (dFldX names pairs f) := by
  intro H x dx d Fx Q rx e q
  unfold dFldX at e
  split at e
  · rename_i n fs
    split at e
    · rename_i hc
      simp only [Bool.and_eq_true] at hc
      have hn : n ∈ names := by simpa using hc.1
      have hp := inP_mem hc.2
      obtain ⟨v, hl, hv⟩ := Option.bind_eq_some_iff.mp e
      obtain ⟨a, C, dd, rfl, ha, hC, hx⟩ := rx.excInv
      have := S.cls_eq hn hC
      subst this
      cases dd with
      | none =>
        have hx : fs = [] := hx
        subst hx
        cases hl
      | some d' => exact ⟨a, _, d', fs, v, rfl, ha, hx, hl, ⟨(S.all n hn).ga, (S.all n hn).gg, (S.all n hn).exc, Fk.hd _ hp, Fk.no _ hp⟩, fin0 (vD_rp hv) q⟩
    · cases e
  · cases e
theorem re_fldX {ta : TE} {ea : Ev} {al : AL} {pairs : List (String × Str)} {f : Str} (S : Kxs P.K P.ca names) (Fk : Kfs P.K P.ca pairs) (ha : RE P lv fl ta ea al fl1) : RE P lv fl (tFldX P.K f ta) (eOp1 (dFldX names pairs f) ea) .own fl1 := re_op1 (os_fldX S Fk) ha
/-! ### lists of any values put together: the new list shares its items with the two -/
theorem TOK.less {H0 H : Hp} {Fs : List (List Addr)} {al : AL} {F G : List Addr} (t : TOK H0 al H Fs F) (s : List.Sublist G F) (hm : al.isMix = true) : TOK H0 al H Fs G :=
  ⟨fun b hb => t.pt b (s.subset hb), (fun e => ⟨(t.own e).1.sublist s, fun b hb => (t.own e).2 b (s.subset hb)⟩), (fun i e => by subst e; cases hm), (fun i e => by subst e; cases hm)⟩
theorem AL.join_mix (a b : AL) : (a.join b).isMix = true := by cases a <;> cases b <;> rfl
def dCatA : D → D → Option D
  | .lst a, .lst b => if a.length + b.length ≤ 16777216 then some (.lst (a ++ b)) else none
  | _, _ => none
theorem re_catA {ta tb : TE} {ea eb : Ev} {al al2 : AL} (ha : RE P lv fl ta ea al fl1) (hb : RE P (al.slots ++ lv) fl1 tb eb al2 fl2) : RE P lv fl (tOp rCat ta tb) (eOp2 dCatA ea eb) (al.join al2) fl2 := by
  refine ⟨hb.1.trans ha.1, fun σ env H Fs r env' S he Q hQ => ?_⟩
  refine ha.bind S he hQ.ex _ fun d e1 q he v F H1 Fs1 S1 st rp tk og => ?_
  refine hb.bind S1 he hQ.ex _ fun d2 e2 q2 he v2 F2 H2 Fs2 S2 st2 rp2 tk2 og2 => ?_
  obtain ⟨d', hd, rfl, rfl⟩ := bO_inv he
  obtain ⟨tk', rp'⟩ := TOK.step S1 tk rp st2 fun i hi => List.mem_append_left _ hi
  unfold dCatA at hd
  split at hd
  · split at hd
    · rename_i hl
      cases hd
      cases rp' with
      | @lst a vs xs G h1 z1 l1 =>
        cases rp2 with
        | @lst b ws ys G2 h2 z2 l2 =>
          have hz : vs.length + ws.length ≤ sizeLine := by rw [l1.length, l2.length, sizeLine_eq]; exact hl
          refine ⟨a, b, vs, ws, rfl, rfl, h1, h2, hz, fun p hp => ?_⟩
          have hz' : (vs ++ ws).length ≤ sizeLine := by rw [List.length_append]; exact hz
          have dj : al = .own → al2 = .own → ∀ x ∈ a :: G, x ∉ b :: G2 := fun e _ x hx hG => by
            subst e
            rcases og2 x hG with h | ⟨j, L, e, hL, _⟩
            · obtain ⟨o, q⟩ := rp.there x hx
              rw [h] at q; cases q
            · rcases tk.pt x hx with ⟨i, _, h, _⟩ | ⟨_, h⟩
              · cases h
              · exact h j L e hL
          have tj := (tk'.join tk2 dj).less (G := G ++ G2) (List.Sublist.append (List.sublist_cons_self _ _) (List.sublist_cons_self _ _)) (AL.join_mix _ _)
          have rr := RpL.append l1 l2
          refine hQ (.ref p) (p :: (G ++ G2)) _ Fs2 (S2.grow (upd_keep hp)) ((st.trans st2 ha.1 fun _ h => List.mem_append_right _ h).trans (Step.grow (upd_keep hp)) (hb.1.trans ha.1) fun _ h => h) (.lst upd_same hz' (rr.keep fun b _ => upd_keep hp b)) (tj.new S2 rr.there hp (AL.join_mix _ _) live_lst) fun x hx => ?_
          rcases List.mem_cons.mp hx with rfl | hx
          · exact .inl (st.back0 (st2.back0 hp))
          · rcases List.mem_append.mp hx with hx | hx
            · exact (Org.weak (fun b hb => og b (List.mem_cons_of_mem _ hb)) fun z => (AL.join_own z).1) x hx
            · exact ((Org.back (fun b hb => og2 b (List.mem_cons_of_mem _ hb)) st ha.1 fun _ z => List.mem_append_right _ z).weak fun z => (AL.join_own z).2) x hx
    · cases hd
  · cases hd
end
/-! ### a caught exception's fields -/
section
variable {X : Cx}
def tFldS (K : PySem.W.Frag) (f : Str) (a : Addr) (cls : Value) (d : Option Addr) (te : TE) : TE := fun σ H Q => te σ H fun x H1 => x = .ref a ∧ ∃ (C dd : Addr) (fs : List (Str × V)) (v : V), cls = .ref C ∧ d = some dd ∧ H1 dd = some (.xd fs) ∧ fs.lookup f = some v ∧ KxF K C f ∧ Q v H1
theorem pe_fldS {a : Addr} {oe : Obj} {cls : Value} {d : Option Addr} {pn : List (Addr × Obj)} {e : Expr} {te : TE} {f : Str} {pos : Pos} (hz : Zc cls d oe) (hf : ∃ vs, oe.data = .fields vs) (he : PE (X.suite a ((a, oe) :: pn)) e te)
    (hb : attributeBase e f X.env (eval e X.env) = eval e X.env := by rfl) : PE (X.suite a ((a, oe) :: pn)) (.Attribute e f pos) (tFldS X.K f a cls d te) := by
  refine ⟨fun pins s σ H Q I h => ?_⟩
  refine attr_of hb (thn (he.run pins s σ H _ I h) fun u s1 hh => ?_)
  obtain ⟨x, H1, I1, rx, ex, C, dd, fs, v, ec, ed, ea, hl, kf, q⟩ := hh
  subst ex
  obtain rfl : u = Value.ref a := rx
  subst ed ec
  obtain ⟨ha, _⟩ := I1.pin (a, oe) (List.mem_append_left _ List.mem_cons_self)
  obtain ⟨vs, hd⟩ := hf
  obtain ⟨mA, hns, hr⟩ : ObjOk X.prog X.w H1 s1.heap dd (.xd fs) := I1.hok dd _ ea
  obtain ⟨od, ho, hlk⟩ := lookIn_ns hns
  obtain ⟨w, hw, rw'⟩ := RelO.some_of (v := v) (o := mA f) (by rw [← hl]; exact hr f)
  have J : PySem.W.InstAt s1.heap a oe C (some od) := ⟨ha, hz.1, by unfold PySem.W.notCls; rw [hd] <;> rfl, by rw [hz.2]; exact ho⟩
  exact HandSPX.exc_get I1.kIn J kf.ga kf.gg kf.ex (PySem.W.findObj_own kf.hd kf.no rfl (by rw [hlk, hw])) (handed_of rw') ⟨v, H1, I1.tok _, rw', q⟩
theorem Kxs.fld {K : PySem.W.Frag} {ca : String → Addr} {names : List String} {pairs : List (String × Str)} {n : String} {f : Str} (S : Kxs K ca names) (Fk : Kfs K ca pairs) (hn : n ∈ names) (hp : (n, f) ∈ pairs) : KxF K (ca n) f := ⟨(S.all n hn).ga, (S.all n hn).gg, (S.all n hn).exc, Fk.hd _ hp, Fk.no _ hp⟩
/-- BadText(a, b), to be raised -/
def tMkT (C : Addr) (ta : TA) : L2.St → Hp → XK → Prop := fun σ H Q => ta σ H fun vs H1 => ∃ v u, vs = [v, u] ∧ ∀ d, H1 d = none → Q (.ref C) (some d) (upd H1 d (.xd [(Str.ofString "line", v), (Str.ofString "column", u)]))
theorem pmk_t {C G fI : Addr} {a b : Expr} {ta : TA} {p pos : Pos} {k : Nat} (T : ET.TTxt X.prog X.K X.mg C G fI) (hr : Room k X.A) (ha : PA X [a, b] ta) (hg : Gl X "BadText")
    (he : starEach (a :: [b]) X.env = (false, eval a X.env) :: starEach [b] X.env := by rfl) (hpl : (backTo pos (starEach [b] X.env)).any (·.1) = false := by rfl) : PMk X (.Call (.Name "BadText" p) [a, b] [] pos) (tMkT C ta) := by
  intro pins s σ H Q I h
  refine wpAny_Call_Name_kw (ld_glob I hg T.gC ?_ (by decide))
  refine PySem.W.callWith_K (h₀ := X.base) I.ok.mod.kin T.kC (thn (ha.run pos pins s σ H _ I h) fun us s1 hh => ?_) he hpl
  obtain ⟨vs, H1, I1, r1, v, u, ev, q1⟩ := hh
  subst ev
  refine ⟨I1.kIn, ?_⟩
  obtain ⟨v', u', rfl, rv, ru⟩ := vals2 r1
  show wpAny _ _ (call (.ref C) [v', u']) _ _ _
  have hlim := I1.nolimit
  obtain ⟨mb, m1, m2⟩ := I1.mod.blt
  have NG := I1.mod.glob.keeps I1.bk
  have NB := m1.keeps I1.bk
  have bs : mb "super" = some (.type "super") := (m2 "super" (by decide)).trans (by decide +kernel)
  obtain ⟨hp, g, dr, tk, os⟩ := s1
  refine wpAny_call (ET.t_made T I1.kIn NG ⟨mb, NB, bs⟩ hlim (by have := hr.dp; omega) fun h' tk' e d M => ?_)
  show MkP X pins σ Q (.ref e) ⟨h', g, dr, tk', os⟩
  obtain ⟨oe, fv, hoe, hc, hd, hdat, h1⟩ := M.obj
  have hns := M.ns
  obtain ⟨G', g1, g2⟩ := restrict h' fun b => decide (b ≠ e)
  have gk : ∀ b, b ≠ e → G'.get? b = h'.get? b := fun b hb => g1 b (decide_eq_true hb)
  have ge : G'.get? e = none := g2 e (by simp)
  have old : ∀ b o, hp.get? b = some o → G'.get? b = some o := fun b o q => by
    have l : b < hp.objs.size := Heap.lt_size q
    have n : hp.objs.size ≤ e := M.new
    rw [gk b (Nat.ne_of_lt (Nat.lt_of_lt_of_le l n))]
    exact M.keep b o q
  have ob : ObjOk X.prog X.w (upd H1 d (.xd [(Str.ofString "line", v), (Str.ofString "column", u)])) G' d (.xd [(Str.ofString "line", v), (Str.ofString "column", u)]) := ⟨_, hns.at (fun o q => (gk d M.dne).trans q), fun y => relO_two rv ru y⟩
  have J : Inv X pins σ (upd H1 d (.xd [(Str.ofString "line", v), (Str.ofString "column", u)])) ⟨G', g, dr, tk', os⟩ := I1.laid (t' := tk') old M.dbig ob
  refine ⟨e, oe, fv, ⟨G', g, dr, tk', os⟩, _, .ref C, some d, rfl, J, fun b o q => ?_, ge, hoe, ⟨hc, hd⟩, hdat, h1, ?_, rfl, I1.bare, raises_own T.exC T.tyC, q1 d (I1.hok.fresh M.dbig)⟩
  · by_cases hb : b = e
    · have q' : G'.get? b = some o := q
      rw [hb, ge] at q'
      cases q'
    · exact (gk b hb).symm.trans q
  · rw [upd_ne (Ne.symm M.dne)]
    exact I1.hok.fresh M.new
end
end VL
/-! E11: built-in classes of exceptions by name. -/
namespace VL
open PySem PySem.Spec L2
theorem bt_Exception : bootBuiltins "Exception" = some (.type "Exception") := by decide +kernel
theorem bt_ValueError : bootBuiltins "ValueError" = some (.type "ValueError") := by decide +kernel
theorem bt_LookupError : bootBuiltins "LookupError" = some (.type "LookupError") := by decide +kernel
theorem bt_ArithmeticError : bootBuiltins "ArithmeticError" = some (.type "ArithmeticError") := by decide +kernel
theorem bt_TypeError : bootBuiltins "TypeError" = some (.type "TypeError") := by decide +kernel
theorem bt_RuntimeError : bootBuiltins "RuntimeError" = some (.type "RuntimeError") := by decide +kernel
theorem fok_place : EG.FOk "place" where
  n1 := by decide
  n2 := by decide
  n3 := by decide
  n4 := by decide
  n5 := by decide
  n6 := by decide
  n7 := by decide
  bind := fun _ _ _ _ _ _ _ _ _ _ _ _ => rfl
end VL
namespace Gk00
open PySem PySem.Spec L2 VL
def topS (i : Nat) : Stmt := PySem.Challenge.pw_gridhall_k00_errors_stand_apart.main.body.getD i (.Pass ⟨0, 0, 0, 0⟩)
def exNames : List String := ["GridError", "BadTable", "BadSides", "BadBody", "BadForm", "BadCoins", "BadPlace", "BadDeed", "BadTree", "NotUnimodular", "NoIndex", "NoCorners", "NotBounded", "NotPointed", "Dependent", "NothingToUndo", "NothingToRedo", "BadNumber", "TooMany", "BadEntry", "BadText"]
def exPairs : List (String × Str) := [("BadNumber", "number"), ("TooMany", "bound"), ("BadEntry", "place"), ("BadText", "line"), ("BadText", "column")]
/-! ### _law_pool -/
abbrev s__law_pool : Stmt := topS 23
abbrev N__law_pool : List Str := ["script", "pool", "cell", "state", "k", "rest"]
theorem sc__law_pool : FnScope N__law_pool ["script"] (defScope s__law_pool) := ⟨rfl, rfl, rfl, by decide +kernel, rfl, by decide +kernel, by decide +kernel⟩
abbrev ts__law_pool (K : PySem.W.Frag) (ca : String → Addr) (E : XK) : TS :=
  (tSeq (tAsg (tLst tNil) (gName 1))
  (tSeq (tFor (iList K (tVar 0)) (gName 2)
  (tSeq (tAsg (tCB zIntC (tCons (tVar 2) tNil)) (gName 5))
  (tIfS (tTest (tOp zGe (tVar 5) (tOp zPow (tC (.int 10)) (tC (.int 18))))) (tFor (iRng1 (tCons (tC (.int 60)) tNil)) (gName 4)
  (tSeq (tDrop (tBM K "list" rAppend (tVar 1) (tCons (tOp zMod (tCB zIntC (tCons (tVar 5) tNil)) (tC (.int 60))) tNil)))
  (tSeq (tAsg (tCB zIntC (tCons (tOp zDiv (tVar 5) (tC (.int 60))) tNil)) (gName 5))
  (tIfS (tTest (tOp (rEqD K) (tVar 5) (tC (.int 0)))) tBreak tNext)))) (tAsg (tOp rCat (tVar 1) (tLst (tCons (tOp zMod (tCB zIntC (tCons (tVar 5) tNil)) (tC (.int 60))) (tCons (tOp zMod (tCB zIntC (tCons (tOp zDiv (tVar 5) (tC (.int 60))) tNil)) (tC (.int 60))) tNil)))) (gName 1)))))
  (tSeq (tAsg (tC (.int 17)) (gName 3))
  (tSeq (tFor (iList K (tVar 0)) (gName 2)
  (tAsg (tOp zMod (tOp zAdd (tOp zMul (tVar 3) (tC (.int 31))) (tCB zIntC (tCons (tVar 2) tNil))) (tC (.int 2147483647))) (gName 3)))
  (tSeq (tFor (iRng1 (tCons (tC (.int 300)) tNil)) (gName 4)
  (tSeq (tAsg (tOp zMod (tOp zAdd (tOp zMul (tVar 3) (tC (.int 48271))) (tC (.int 11))) (tC (.int 2147483647))) (gName 3))
  (tDrop (tBM K "list" rAppend (tVar 1) (tCons (tOp zMod (tCB zIntC (tCons (tOp zDiv (tVar 3) (tC (.int 97))) tNil)) (tC (.int 60))) tNil)))))
  (tRet (tVar 1)))))))
def lb1__law_pool : Sv :=
  (sSeq (sApp 1 (eOp2 dMod (eOp1 dInt (eScal (eVar 5))) (eC (.int 60))))
  (sSeq (sSet 5 (eOp1 dInt (eOp2 dDiv (eScal (eVar 5)) (eC (.int 60)))))
  (sIf (tvB (eOp2 dEq (eScal (eVar 5)) (eC (.int 0)))) sBreak sNil)))
def lb2__law_pool : Sv :=
  (sSeq (sSet 5 (eOp1 dInt (eScal (eVar 2))))
  (sIf (tvB (eOp2 dGe (eScal (eVar 5)) (eOp2 dPow (eC (.int 10)) (eC (.int 18))))) (sFor (ivR1 (aCons (eC (.int 60)) aNil)) (.nm 4) lb1__law_pool) (sSet 1 (eOp2 dCatS (eVar 1) (eLst (aCons (eOp2 dMod (eOp1 dInt (eScal (eVar 5))) (eC (.int 60))) (aCons (eOp2 dMod (eOp1 dInt (eOp2 dDiv (eScal (eVar 5)) (eC (.int 60)))) (eC (.int 60))) aNil)))))))
def lb3__law_pool : Sv :=
  (sSet 3 (eOp2 dMod (eOp2 dAdd (eOp2 dMul (eScal (eVar 3)) (eC (.int 31))) (eOp1 dInt (eScal (eVar 2)))) (eC (.int 2147483647))))
def lb4__law_pool : Sv :=
  (sSeq (sSet 3 (eOp2 dMod (eOp2 dAdd (eOp2 dMul (eScal (eVar 3)) (eC (.int 48271))) (eC (.int 11))) (eC (.int 2147483647))))
  (sApp 1 (eOp2 dMod (eOp1 dInt (eOp2 dDiv (eScal (eVar 3)) (eC (.int 97)))) (eC (.int 60)))))
def sv__law_pool : Sv :=
  (sSeq (sSet 1 (eLst aNil))
  (sSeq (sFor (ivScr (eVar 0)) (.nm 2) lb2__law_pool)
  (sSeq (sSet 3 (eC (.int 17)))
  (sSeq (sFor (ivScr (eVar 0)) (.nm 2) lb3__law_pool)
  (sSeq (sFor (ivR1 (aCons (eC (.int 300)) aNil)) (.nm 4) lb4__law_pool)
  (sRet (eTake 1)))))))
def m__law_pool : Fm := fmOf [false] 6 sv__law_pool
theorem rs__law_pool (P : Cz) : RS P ⟨[], true⟩ [] [0, 0, 0, 0, 0, 0] (ts__law_pool P.K P.ca P.E) sv__law_pool [] [0, 2, 0, 2, 0, 0] :=
  (rs_seq (rs_set (i := 1) (flx := [0, 2, 0, 0, 0, 0]) (re_lst ra_nil))
  (rs_seq (rs_for (t := (.nm 2)) (flI := [0, 2, 0, 0, 0, 0]) (ri_scr (re_var 0))
  (rs_weak (fl2 := [0, 2, 0, 0, 0, 0]) (rs_seq (rs_set (i := 5) (flx := [0, 2, 0, 0, 0, 2]) (re_b1 os_int (re_scal (re_var 2))))
  (rs_if (rt_b (re_op2 os_ge (re_scal (re_var 5)) (re_op2 os_pow (re_int 10) (re_int 18)))) (rs_for (t := (.nm 4)) (flI := [0, 2, 0, 0, 0, 2]) (ri_range1 (ra_cons (re_int 60) ra_nil))
  (rs_seq (rs_app (i := 1) (flx := [0, 2, 0, 0, 0, 2]) (re_op2 os_mod (re_b1 os_int (re_scal (re_var 5))) (re_int 60)))
  (rs_seq (rs_set (i := 5) (flx := [0, 2, 0, 0, 0, 2]) (re_b1 os_int (re_op2 os_div (re_scal (re_var 5)) (re_int 60))))
  (rs_if (rt_b (re_op2 os_eq (re_scal (re_var 5)) (re_int 0))) (rs_break rfl) rs_nil)))) (rs_set (i := 1) (flx := [0, 2, 0, 0, 0, 2]) (re_op2 os_catS (re_var 1) (re_lst (ra_cons (re_op2 os_mod (re_b1 os_int (re_scal (re_var 5))) (re_int 60)) (ra_cons (re_op2 os_mod (re_b1 os_int (re_op2 os_div (re_scal (re_var 5)) (re_int 60))) (re_int 60)) ra_nil))))))) rfl))
  (rs_seq (rs_set (i := 3) (flx := [0, 2, 0, 2, 0, 0]) (re_int 17))
  (rs_seq (rs_for (t := (.nm 2)) (flI := [0, 2, 0, 2, 0, 0]) (ri_scr (re_var 0))
  (rs_set (i := 3) (flx := [0, 2, 0, 2, 0, 0]) (re_op2 os_mod (re_op2 os_add (re_op2 os_mul (re_scal (re_var 3)) (re_int 31)) (re_b1 os_int (re_scal (re_var 2)))) (re_int 2147483647))))
  (rs_seq (rs_for (t := (.nm 4)) (flI := [0, 2, 0, 2, 0, 0]) (ri_range1 (ra_cons (re_int 300) ra_nil))
  (rs_seq (rs_set (i := 3) (flx := [0, 2, 0, 2, 0, 0]) (re_op2 os_mod (re_op2 os_add (re_op2 os_mul (re_scal (re_var 3)) (re_int 48271)) (re_int 11)) (re_int 2147483647)))
  (rs_app (i := 1) (flx := [0, 2, 0, 2, 0, 0]) (re_op2 os_mod (re_b1 os_int (re_op2 os_div (re_scal (re_var 3)) (re_int 97))) (re_int 60)))))
  (rs_ret (re_take 1)))))))
theorem ok__law_pool {P : Program} {w : World} {K : PySem.W.Frag} {mg : Str → Option Value} {base : Heap} {ca : String → Addr} {f : Addr} {fd : FuncData} (F : Fun K "_law_pool" "_law_pool" s__law_pool f fd) (n_int : mg "int" = none) (n_range : mg "range" = none) : FnOk P w K mg base CX0 1 f fd ["script"] (spV K ca [false] true m__law_pool) := by
  refine F.ok (k := 0) sc__law_pool (fun vs H Q E h => spV_len _ _ _ _ h) (fun cdv A outer s H vs Q E hr h => ⟨ts__law_pool K ca E, ?_, body_ok (n := 6) (ks := [false]) (fr := true) rfl (by decide) (fun P e1 e2 e3 => by subst e1 e2 e3; exact rs__law_pool P) rfl h⟩)
  exact (pss_cons (ps_set (i := 1) sc__law_pool.nd rfl (by first | exact Or.inl rfl | exact Or.inr rfl) (pe_lst pa_nil))
  (pss_cons (ps_for PassesOwn.never rfl (pi_list (pv 0)) (pg_name (i := 2) sc__law_pool.nd rfl (by first | exact Or.inl rfl | exact Or.inr rfl))
  (pss_cons (ps_set (i := 5) sc__law_pool.nd rfl (by first | exact Or.inl rfl | exact Or.inr rfl) (pe_callTy call_int1 (by rfl) n_int bt_int (pa_cons (pv 2) pa_nil)))
  (pss_one (ps_if (pt_cmpR op_ge (pv 5) (pe_op op_pow pe_int pe_int) (nomark _)) (pss_one (ps_for PassesOwn.never rfl (pi_range1 (by rfl) n_range (pa_cons pe_int pa_nil)) (pg_name (i := 4) sc__law_pool.nd rfl (by first | exact Or.inl rfl | exact Or.inr rfl))
  (pss_cons (ps_expr (pe_bm PySem.F.plainAttrs_list PySem.F.slot_list_append PySem.F.type_list_append mt_append (pv 1) (pa_cons (pe_op op_modN (pe_callTy call_int1 (by rfl) n_int bt_int (pa_cons (pv 5) pa_nil)) pe_int) pa_nil)))
  (pss_cons (ps_set (i := 5) sc__law_pool.nd rfl (by first | exact Or.inl rfl | exact Or.inr rfl) (pe_callTy call_int1 (by rfl) n_int bt_int (pa_cons (pe_op op_fdivA (pv 5) pe_int) pa_nil)))
  (pss_one (ps_if (pt_cmpR (op_eqD hr.units) (pv 5) pe_int (nomark _)) (pss_one ps_break) pss_nil)))))) (pss_one (ps_set (i := 1) sc__law_pool.nd rfl (by first | exact Or.inl rfl | exact Or.inr rfl) (pe_op op_cat (pv 1) (pe_lst (pa_cons (pe_op op_modN (pe_callTy call_int1 (by rfl) n_int bt_int (pa_cons (pv 5) pa_nil)) pe_int) (pa_cons (pe_op op_modN (pe_callTy call_int1 (by rfl) n_int bt_int (pa_cons (pe_op op_fdivA (pv 5) pe_int) pa_nil)) pe_int) pa_nil))))))))))
  (pss_cons (ps_set (i := 3) sc__law_pool.nd rfl (by first | exact Or.inl rfl | exact Or.inr rfl) pe_int)
  (pss_cons (ps_for PassesOwn.never rfl (pi_list (pv 0)) (pg_name (i := 2) sc__law_pool.nd rfl (by first | exact Or.inl rfl | exact Or.inr rfl))
  (pss_one (ps_set (i := 3) sc__law_pool.nd rfl (by first | exact Or.inl rfl | exact Or.inr rfl) (pe_op op_modN (pe_op op_add (pe_op op_mulW (pv 3) pe_int) (pe_callTy call_int1 (by rfl) n_int bt_int (pa_cons (pv 2) pa_nil))) pe_int))))
  (pss_cons (ps_for PassesOwn.never rfl (pi_range1 (by rfl) n_range (pa_cons pe_int pa_nil)) (pg_name (i := 4) sc__law_pool.nd rfl (by first | exact Or.inl rfl | exact Or.inr rfl))
  (pss_cons (ps_set (i := 3) sc__law_pool.nd rfl (by first | exact Or.inl rfl | exact Or.inr rfl) (pe_op op_modN (pe_op op_add (pe_op op_mulW (pv 3) pe_int) pe_int) pe_int))
  (pss_one (ps_expr (pe_bm PySem.F.plainAttrs_list PySem.F.slot_list_append PySem.F.type_list_append mt_append (pv 1) (pa_cons (pe_op op_modN (pe_callTy call_int1 (by rfl) n_int bt_int (pa_cons (pe_op op_fdivA (pv 3) pe_int) pa_nil)) pe_int) pa_nil))))))
  (pss_one (ps_ret (pv 1))))))))
/-! ### _law_stream -/
abbrev s__law_stream : Stmt := topS 24
abbrev N__law_stream : List Str := ["script"]
theorem sc__law_stream : FnScope N__law_stream ["script"] (defScope s__law_stream) := ⟨rfl, rfl, rfl, by decide +kernel, rfl, by decide +kernel, by decide +kernel⟩
abbrev ts__law_stream (K : PySem.W.Frag) (ca : String → Addr) (E : XK) : TS :=
  (tRet (tOp rCat (tLst (tCons (tC (.int 1)) tNil)) (tCall (spV K ca [false] true m__law_pool) [] E (tCons (tVar 0) tNil))))
def sv__law_stream : Sv :=
  (sRet (eOp2 dCatS (eLst (aCons (eC (.int 1)) aNil)) (eCall m__law_pool [none] (aCons (eVar 0) aNil))))
def m__law_stream : Fm := fmOf [false] 1 sv__law_stream
theorem rs__law_stream (P : Cz) : RS P ⟨[], true⟩ [] [0] (ts__law_stream P.K P.ca P.E) sv__law_stream [] [0] :=
  (rs_ret (re_op2 os_catS (re_lst (ra_cons (re_int 1) ra_nil)) (re_call (kb := [false]) (ra_cons (re_var 0) ra_nil))))
theorem ok__law_stream {P : Program} {w : World} {K : PySem.W.Frag} {mg : Str → Option Value} {base : Heap} {ca : String → Addr} {f : Addr} {fd : FuncData} (F : Fun K "_law_stream" "_law_stream" s__law_stream f fd) (c__law_pool : Cal P w K mg base CX0 "_law_pool" 1 ["script"] (spV K ca [false] true m__law_pool)) : FnOk P w K mg base CX0 2 f fd ["script"] (spV K ca [false] true m__law_stream) := by
  refine F.ok (k := 1) sc__law_stream (fun vs H Q E h => spV_len _ _ _ _ h) (fun cdv A outer s H vs Q E hr h => ⟨ts__law_stream K ca E, ?_, body_ok (n := 1) (ks := [false]) (fr := true) rfl (by decide) (fun P e1 e2 e3 => by subst e1 e2 e3; exact rs__law_stream P) rfl h⟩)
  exact (pss_one (ps_ret (pe_op op_cat (pe_lst (pa_cons pe_int pa_nil)) (pe_cal c__law_pool (hr.mono (by decide)) (by rfl) (pa_cons (pv 0) pa_nil)))))
/-! ### _law_pick -/
abbrev s__law_pick : Stmt := topS 25
abbrev N__law_pick : List Str := ["pool", "many", "place"]
theorem sc__law_pick : FnScope N__law_pick ["pool", "many"] (defScope s__law_pick) := ⟨rfl, rfl, rfl, by decide +kernel, rfl, by decide +kernel, by decide +kernel⟩
abbrev ts__law_pick (K : PySem.W.Frag) (ca : String → Addr) (E : XK) : TS :=
  (tSeq (tAsg (tOp (zIxA K) (tVar 0) (tC (.int 0))) (gName 2))
  (tSeq (tAsg (tOp zAdd (tVar 2) (tC (.int 1))) (gSub (tVar 0) (tC (.int 0)) rSetL))
  (tSeq (tIfS (tTest (tOp (rEqD K) (tOp (zIxA K) (tVar 0) (tC (.int 0))) (tCB (zLen K) (tCons (tVar 0) tNil)))) (tAsg (tC (.int 1)) (gSub (tVar 0) (tC (.int 0)) rSetL)) tNext)
  (tRet (tOp zMod (tCB zIntC (tCons (tOp (zIxA K) (tVar 0) (tVar 2)) tNil)) (tVar 1))))))
def sv__law_pick : Sv :=
  (sSeq (sSet 2 (eScal (eOp2 dIx (eVar 0) (eC (.int 0)))))
  (sSeq (sSetIx 0 (eOp2 dAdd (eScal (eVar 2)) (eC (.int 1))) (eC (.int 0)))
  (sSeq (sIf (tvB (eOp2 dEq (eScal (eOp2 dIx (eVar 0) (eC (.int 0)))) (eOp1 dLen (eVar 0)))) (sSetIx 0 (eC (.int 1)) (eC (.int 0))) sNil)
  (sRet (eOp2 dMod (eOp1 dInt (eScal (eOp2 dIx (eVar 0) (eScal (eVar 2))))) (eScal (eVar 1)))))))
def m__law_pick : Fm := fmOf [true, false] 3 sv__law_pick
theorem rs__law_pick (P : Cz) : RS P ⟨[0], true⟩ [] [3, 0, 0] (ts__law_pick P.K P.ca P.E) sv__law_pick [] [3, 0, 2] :=
  (rs_seq (rs_set (i := 2) (flx := [3, 0, 2]) (re_scal (re_ix oc_ix (re_var 0) (re_int 0))))
  (rs_seq (rs_setIx (i := 0) (flx := [3, 0, 2]) (re_op2 os_add (re_scal (re_var 2)) (re_int 1)) (re_int 0))
  (rs_seq (rs_if (rt_b (re_op2 os_eq (re_scal (re_ix oc_ix (re_var 0) (re_int 0))) (re_b1 os_len (re_var 0)))) (rs_setIx (i := 0) (flx := [3, 0, 2]) (re_int 1) (re_int 0)) rs_nil)
  (rs_ret (re_op2 os_mod (re_b1 os_int (re_scal (re_ix oc_ix (re_var 0) (re_scal (re_var 2))))) (re_scal (re_var 1)))))))
theorem ok__law_pick {P : Program} {w : World} {K : PySem.W.Frag} {mg : Str → Option Value} {base : Heap} {ca : String → Addr} {f : Addr} {fd : FuncData} (F : Fun K "_law_pick" "_law_pick" s__law_pick f fd) (n_len : mg "len" = none) (n_int : mg "int" = none) : FnOk P w K mg base CX0 1 f fd ["pool", "many"] (spV K ca [true, false] true m__law_pick) := by
  refine F.ok (k := 0) sc__law_pick (fun vs H Q E h => spV_len _ _ _ _ h) (fun cdv A outer s H vs Q E hr h => ⟨ts__law_pick K ca E, ?_, body_ok (n := 3) (ks := [true, false]) (fr := true) rfl (by decide) (fun P e1 e2 e3 => by subst e1 e2 e3; exact rs__law_pick P) rfl h⟩)
  exact (pss_cons (ps_set (i := 2) sc__law_pick.nd rfl (by first | exact Or.inl rfl | exact Or.inr rfl) (pe_ix (ix_list.or ix_tup) (pv 0) pe_int (fun _ _ => rfl)))
  (pss_cons (ps_asg (pe_op op_add (pv 2) pe_int) (pg_sub (pv 0) pe_int set_list))
  (pss_cons (ps_if (pt_cmpR (op_eqD hr.units) (pe_ix (ix_list.or ix_tup) (pv 0) pe_int (fun _ _ => rfl)) (pe_callB call_len_seq (by rfl) n_len bt_len (pa_cons (pv 0) pa_nil)) (nomark _)) (pss_one (ps_asg pe_int (pg_sub (pv 0) pe_int set_list))) pss_nil)
  (pss_one (ps_ret (pe_op op_modN (pe_callTy call_int1 (by rfl) n_int bt_int (pa_cons (pe_ix (ix_list.or ix_tup) (pv 0) (pv 2) (fun _ _ => rfl)) pa_nil)) (pv 1)))))))
/-! ### _law_within -/
abbrev s__law_within : Stmt := topS 26
abbrev N__law_within : List Str := ["pool", "low", "high", "kind", "number", "turn"]
theorem sc__law_within : FnScope N__law_within ["pool", "low", "high"] (defScope s__law_within) := ⟨rfl, rfl, rfl, by decide +kernel, rfl, by decide +kernel, by decide +kernel⟩
abbrev ts__law_within (K : PySem.W.Frag) (ca : String → Addr) (E : XK) : TS :=
  (tSeq (tAsg (tCall (spV K ca [true, false] true m__law_pick) [] E (tCons (tVar 0) (tCons (tC (.int 5)) tNil))) (gName 3))
  (tSeq (tIfS (tTest (tOp zLt (tVar 3) (tC (.int 2)))) (tRet (tOp (zIxA K) (tLst (tCons (tVar 1) (tCons (tVar 2) tNil))) (tVar 3))) tNext)
  (tSeq (tAsg (tC (.int 0)) (gName 4))
  (tSeq (tFor (iRng1 (tCons (tC (.int 6)) tNil)) (gName 5)
  (tAsg (tOp zAdd (tOp zMul (tVar 4) (tC (.int 60))) (tCall (spV K ca [true, false] true m__law_pick) [] E (tCons (tVar 0) (tCons (tC (.int 60)) tNil)))) (gName 4)))
  (tRet (tOp zAdd (tVar 1) (tOp zMod (tCB zIntC (tCons (tVar 4) tNil)) (tOp zAdd (tOp zSub (tVar 2) (tVar 1)) (tC (.int 1))))))))))
def lb1__law_within : Sv :=
  (sSet 4 (eOp2 dAdd (eOp2 dMul (eScal (eVar 4)) (eC (.int 60))) (eCall m__law_pick [some 0, none] (aIo 0 (aCons (eC (.int 60)) aNil)))))
def sv__law_within : Sv :=
  (sSeq (sSet 3 (eCall m__law_pick [some 0, none] (aIo 0 (aCons (eC (.int 5)) aNil))))
  (sSeq (sIf (tvB (eOp2 dLt (eScal (eVar 3)) (eC (.int 2)))) (sRet (eOp2 dIx (eLst (aCons (eScal (eVar 1)) (aCons (eScal (eVar 2)) aNil))) (eScal (eVar 3)))) sNil)
  (sSeq (sSet 4 (eC (.int 0)))
  (sSeq (sFor (ivR1 (aCons (eC (.int 6)) aNil)) (.nm 5) lb1__law_within)
  (sRet (eOp2 dAdd (eScal (eVar 1)) (eOp2 dMod (eOp1 dInt (eScal (eVar 4))) (eOp2 dAdd (eOp2 dSub (eScal (eVar 2)) (eScal (eVar 1))) (eC (.int 1))))))))))
def m__law_within : Fm := fmOf [true, false, false] 6 sv__law_within
theorem rs__law_within (P : Cz) : RS P ⟨[0], true⟩ [] [3, 0, 0, 0, 0, 0] (ts__law_within P.K P.ca P.E) sv__law_within [] [3, 0, 0, 2, 2, 0] :=
  (rs_seq (rs_set (i := 3) (flx := [3, 0, 0, 2, 0, 0]) (re_call (kb := [true, false]) (ra_io (i := 0) (ra_cons (re_int 5) ra_nil))))
  (rs_seq (rs_if (rt_b (re_op2 os_lt (re_scal (re_var 3)) (re_int 2))) (rs_ret (re_ix oc_ix (re_lst (ra_cons (re_scal (re_var 1)) (ra_cons (re_scal (re_var 2)) ra_nil))) (re_scal (re_var 3)))) rs_nil)
  (rs_seq (rs_set (i := 4) (flx := [3, 0, 0, 2, 2, 0]) (re_int 0))
  (rs_seq (rs_for (t := (.nm 5)) (flI := [3, 0, 0, 2, 2, 0]) (ri_range1 (ra_cons (re_int 6) ra_nil))
  (rs_set (i := 4) (flx := [3, 0, 0, 2, 2, 0]) (re_op2 os_add (re_op2 os_mul (re_scal (re_var 4)) (re_int 60)) (re_call (kb := [true, false]) (ra_io (i := 0) (ra_cons (re_int 60) ra_nil))))))
  (rs_ret (re_op2 os_add (re_scal (re_var 1)) (re_op2 os_mod (re_b1 os_int (re_scal (re_var 4))) (re_op2 os_add (re_op2 os_sub (re_scal (re_var 2)) (re_scal (re_var 1))) (re_int 1)))))))))
theorem ok__law_within {P : Program} {w : World} {K : PySem.W.Frag} {mg : Str → Option Value} {base : Heap} {ca : String → Addr} {f : Addr} {fd : FuncData} (F : Fun K "_law_within" "_law_within" s__law_within f fd) (n_range : mg "range" = none) (n_int : mg "int" = none) (c__law_pick : Cal P w K mg base CX0 "_law_pick" 1 ["pool", "many"] (spV K ca [true, false] true m__law_pick)) : FnOk P w K mg base CX0 2 f fd ["pool", "low", "high"] (spV K ca [true, false, false] true m__law_within) := by
  refine F.ok (k := 1) sc__law_within (fun vs H Q E h => spV_len _ _ _ _ h) (fun cdv A outer s H vs Q E hr h => ⟨ts__law_within K ca E, ?_, body_ok (n := 6) (ks := [true, false, false]) (fr := true) rfl (by decide) (fun P e1 e2 e3 => by subst e1 e2 e3; exact rs__law_within P) rfl h⟩)
  exact (pss_cons (ps_set (i := 3) sc__law_within.nd rfl (by first | exact Or.inl rfl | exact Or.inr rfl) (pe_cal c__law_pick (hr.mono (by decide)) (by rfl) (pa_cons (pv 0) (pa_cons pe_int pa_nil))))
  (pss_cons (ps_if (pt_cmpR op_lt (pv 3) pe_int (nomark _)) (pss_one (ps_ret (pe_ix (ix_list.or ix_tup) (pe_lst (pa_cons (pv 1) (pa_cons (pv 2) pa_nil))) (pv 3) (fun _ _ => rfl)))) pss_nil)
  (pss_cons (ps_set (i := 4) sc__law_within.nd rfl (by first | exact Or.inl rfl | exact Or.inr rfl) pe_int)
  (pss_cons (ps_for PassesOwn.never rfl (pi_range1 (by rfl) n_range (pa_cons pe_int pa_nil)) (pg_name (i := 5) sc__law_within.nd rfl (by first | exact Or.inl rfl | exact Or.inr rfl))
  (pss_one (ps_set (i := 4) sc__law_within.nd rfl (by first | exact Or.inl rfl | exact Or.inr rfl) (pe_op op_add (pe_op op_mulW (pv 4) pe_int) (pe_cal c__law_pick (hr.mono (by decide)) (by rfl) (pa_cons (pv 0) (pa_cons pe_int pa_nil)))))))
  (pss_one (ps_ret (pe_op op_add (pv 1) (pe_op op_modN (pe_callTy call_int1 (by rfl) n_int bt_int (pa_cons (pv 4) pa_nil)) (pe_op op_add (pe_op op_sub (pv 2) (pv 1)) pe_int)))))))))
/-! ### _law_made -/
abbrev s__law_made : Stmt := topS 27
abbrev N__law_made : List Str := ["fields", "found"]
theorem sc__law_made : FnScope N__law_made ["fields"] (defScope s__law_made) := ⟨rfl, rfl, rfl, by decide +kernel, rfl, by decide +kernel, by decide +kernel⟩
abbrev ts__law_made (K : PySem.W.Frag) (ca : String → Addr) (E : XK) : TS :=
  (tSeq (tAsg (tLst (tCons (tMk0 (ca "BadTable")) (tCons (tMk0 (ca "BadSides")) (tCons (tMk0 (ca "BadBody")) (tCons (tMk0 (ca "BadForm")) (tCons (tMk0 (ca "BadCoins")) (tCons (tMk0 (ca "BadPlace")) (tCons (tMk0 (ca "BadDeed")) (tCons (tMk0 (ca "BadTree")) (tCons (tMk0 (ca "NotUnimodular")) tNil)))))))))) (gName 1))
  (tSeq (tAsg (tOp rCat (tVar 1) (tLst (tCons (tMk0 (ca "NoIndex")) (tCons (tMk0 (ca "NoCorners")) (tCons (tMk0 (ca "NotBounded")) (tCons (tMk0 (ca "NotPointed")) (tCons (tMk0 (ca "Dependent")) (tCons (tMk0 (ca "NothingToUndo")) (tCons (tMk0 (ca "NothingToRedo")) tNil))))))))) (gName 1))
  (tRet (tOp rCat (tVar 1) (tLst (tCons (tMkX (ca "BadNumber") ["number"] (tCons (tOp (zIxA K) (tVar 0) (tC (.int 0))) tNil)) (tCons (tMkX (ca "TooMany") ["bound"] (tCons (tOp (zIxA K) (tVar 0) (tC (.int 1))) tNil)) (tCons (tMkX (ca "BadEntry") ["place"] (tCons (tOp (zIxA K) (tVar 0) (tC (.int 2))) tNil)) (tCons (tMkX (ca "BadText") ["line", "column"] (tCons (tOp (zIxA K) (tVar 0) (tC (.int 3))) (tCons (tOp (zIxA K) (tVar 0) (tC (.int 4))) tNil))) tNil)))))))))
def sv__law_made : Sv :=
  (sSeq (sSet 1 (eLst (aCons (eC (.exc "BadTable" [])) (aCons (eC (.exc "BadSides" [])) (aCons (eC (.exc "BadBody" [])) (aCons (eC (.exc "BadForm" [])) (aCons (eC (.exc "BadCoins" [])) (aCons (eC (.exc "BadPlace" [])) (aCons (eC (.exc "BadDeed" [])) (aCons (eC (.exc "BadTree" [])) (aCons (eC (.exc "NotUnimodular" [])) aNil)))))))))))
  (sSeq (sSet 1 (eOp2 dCatA (eVar 1) (eLst (aCons (eC (.exc "NoIndex" [])) (aCons (eC (.exc "NoCorners" [])) (aCons (eC (.exc "NotBounded" [])) (aCons (eC (.exc "NotPointed" [])) (aCons (eC (.exc "Dependent" [])) (aCons (eC (.exc "NothingToUndo" [])) (aCons (eC (.exc "NothingToRedo" [])) aNil))))))))))
  (sRet (eOp2 dCatA (eVar 1) (eLst (aCons (eMkX "BadNumber" ["number"] (aCons (eScal (eOp2 dIx (eVar 0) (eC (.int 0)))) aNil)) (aCons (eMkX "TooMany" ["bound"] (aCons (eScal (eOp2 dIx (eVar 0) (eC (.int 1)))) aNil)) (aCons (eMkX "BadEntry" ["place"] (aCons (eScal (eOp2 dIx (eVar 0) (eC (.int 2)))) aNil)) (aCons (eMkX "BadText" ["line", "column"] (aCons (eScal (eOp2 dIx (eVar 0) (eC (.int 3)))) (aCons (eScal (eOp2 dIx (eVar 0) (eC (.int 4)))) aNil))) aNil)))))))))
def m__law_made : Fm := fmOf [false] 2 sv__law_made
theorem rs__law_made (P : Cz) (XS : Kxs P.K P.ca exNames) (XF : Kfs P.K P.ca exPairs) : RS P ⟨[], false⟩ [] [0, 0] (ts__law_made P.K P.ca P.E) sv__law_made [] [0, 0] :=
  (rs_seq (rs_set (i := 1) (flx := [0, 2]) (re_lst (ra_cons (re_mk0 XS (n := "BadTable") (by decide)) (ra_cons (re_mk0 XS (n := "BadSides") (by decide)) (ra_cons (re_mk0 XS (n := "BadBody") (by decide)) (ra_cons (re_mk0 XS (n := "BadForm") (by decide)) (ra_cons (re_mk0 XS (n := "BadCoins") (by decide)) (ra_cons (re_mk0 XS (n := "BadPlace") (by decide)) (ra_cons (re_mk0 XS (n := "BadDeed") (by decide)) (ra_cons (re_mk0 XS (n := "BadTree") (by decide)) (ra_cons (re_mk0 XS (n := "NotUnimodular") (by decide)) ra_nil)))))))))))
  (rs_seq (rs_set (i := 1) (flx := [0, 0]) (re_catA (re_var 1) (re_lst (ra_cons (re_mk0 XS (n := "NoIndex") (by decide)) (ra_cons (re_mk0 XS (n := "NoCorners") (by decide)) (ra_cons (re_mk0 XS (n := "NotBounded") (by decide)) (ra_cons (re_mk0 XS (n := "NotPointed") (by decide)) (ra_cons (re_mk0 XS (n := "Dependent") (by decide)) (ra_cons (re_mk0 XS (n := "NothingToUndo") (by decide)) (ra_cons (re_mk0 XS (n := "NothingToRedo") (by decide)) ra_nil))))))))))
  (rs_ret (re_catA (re_var 1) (re_lst (ra_cons (re_mkX (n := "BadNumber") XS (by decide) (ra_cons (re_scal (re_ix oc_ix (re_var 0) (re_int 0))) ra_nil)) (ra_cons (re_mkX (n := "TooMany") XS (by decide) (ra_cons (re_scal (re_ix oc_ix (re_var 0) (re_int 1))) ra_nil)) (ra_cons (re_mkX (n := "BadEntry") XS (by decide) (ra_cons (re_scal (re_ix oc_ix (re_var 0) (re_int 2))) ra_nil)) (ra_cons (re_mkX (n := "BadText") XS (by decide) (ra_cons (re_scal (re_ix oc_ix (re_var 0) (re_int 3))) (ra_cons (re_scal (re_ix oc_ix (re_var 0) (re_int 4))) ra_nil))) ra_nil)))))))))
theorem ok__law_made {P : Program} {w : World} {K : PySem.W.Frag} {mg : Str → Option Value} {base : Heap} {ca : String → Addr} {f : Addr} {fd : FuncData} (F : Fun K "_law_made" "_law_made" s__law_made f fd) {B_BadNumber I_BadNumber : Addr} (T_BadNumber : EG.GTxt P K mg "number" "BadNumber" (ca "BadNumber") B_BadNumber I_BadNumber) (ok_number : EG.FOk "number") {B_TooMany I_TooMany : Addr} (T_TooMany : EG.GTxt P K mg "bound" "TooMany" (ca "TooMany") B_TooMany I_TooMany) (ok_bound : EG.FOk "bound") {B_BadEntry I_BadEntry : Addr} (T_BadEntry : EG.GTxt P K mg "place" "BadEntry" (ca "BadEntry") B_BadEntry I_BadEntry) (ok_place : EG.FOk "place") {B_BadText I_BadText : Addr} (T_BadText : ET.TTxt P K mg (ca "BadText") B_BadText I_BadText) (G_BadBody : mg "BadBody" = some (.ref (ca "BadBody"))) (G_BadCoins : mg "BadCoins" = some (.ref (ca "BadCoins"))) (G_BadDeed : mg "BadDeed" = some (.ref (ca "BadDeed"))) (G_BadForm : mg "BadForm" = some (.ref (ca "BadForm"))) (G_BadPlace : mg "BadPlace" = some (.ref (ca "BadPlace"))) (G_BadSides : mg "BadSides" = some (.ref (ca "BadSides"))) (G_BadTable : mg "BadTable" = some (.ref (ca "BadTable"))) (G_BadTree : mg "BadTree" = some (.ref (ca "BadTree"))) (G_Dependent : mg "Dependent" = some (.ref (ca "Dependent"))) (G_NoCorners : mg "NoCorners" = some (.ref (ca "NoCorners"))) (G_NoIndex : mg "NoIndex" = some (.ref (ca "NoIndex"))) (G_NotBounded : mg "NotBounded" = some (.ref (ca "NotBounded"))) (G_NotPointed : mg "NotPointed" = some (.ref (ca "NotPointed"))) (G_NotUnimodular : mg "NotUnimodular" = some (.ref (ca "NotUnimodular"))) (G_NothingToRedo : mg "NothingToRedo" = some (.ref (ca "NothingToRedo"))) (G_NothingToUndo : mg "NothingToUndo" = some (.ref (ca "NothingToUndo"))) (Q_BadTable : PySem.W.excIn K (ca "BadTable") [.type "Exception", .type "BaseException", .type "object"] "Exception.__new__" = true) (K_BadTable : PySem.W.keepIn K (.ref (ca "BadTable")) = true) (Q_BadSides : PySem.W.excIn K (ca "BadSides") [.type "Exception", .type "BaseException", .type "object"] "Exception.__new__" = true) (K_BadSides : PySem.W.keepIn K (.ref (ca "BadSides")) = true) (Q_BadBody : PySem.W.excIn K (ca "BadBody") [.type "Exception", .type "BaseException", .type "object"] "Exception.__new__" = true) (K_BadBody : PySem.W.keepIn K (.ref (ca "BadBody")) = true) (Q_BadForm : PySem.W.excIn K (ca "BadForm") [.type "Exception", .type "BaseException", .type "object"] "Exception.__new__" = true) (K_BadForm : PySem.W.keepIn K (.ref (ca "BadForm")) = true) (Q_BadCoins : PySem.W.excIn K (ca "BadCoins") [.type "Exception", .type "BaseException", .type "object"] "Exception.__new__" = true) (K_BadCoins : PySem.W.keepIn K (.ref (ca "BadCoins")) = true) (Q_BadPlace : PySem.W.excIn K (ca "BadPlace") [.type "Exception", .type "BaseException", .type "object"] "Exception.__new__" = true) (K_BadPlace : PySem.W.keepIn K (.ref (ca "BadPlace")) = true) (Q_BadDeed : PySem.W.excIn K (ca "BadDeed") [.type "Exception", .type "BaseException", .type "object"] "Exception.__new__" = true) (K_BadDeed : PySem.W.keepIn K (.ref (ca "BadDeed")) = true) (Q_BadTree : PySem.W.excIn K (ca "BadTree") [.type "Exception", .type "BaseException", .type "object"] "Exception.__new__" = true) (K_BadTree : PySem.W.keepIn K (.ref (ca "BadTree")) = true) (Q_NotUnimodular : PySem.W.excIn K (ca "NotUnimodular") [.type "Exception", .type "BaseException", .type "object"] "Exception.__new__" = true) (K_NotUnimodular : PySem.W.keepIn K (.ref (ca "NotUnimodular")) = true) (Q_NoIndex : PySem.W.excIn K (ca "NoIndex") [.type "Exception", .type "BaseException", .type "object"] "Exception.__new__" = true) (K_NoIndex : PySem.W.keepIn K (.ref (ca "NoIndex")) = true) (Q_NoCorners : PySem.W.excIn K (ca "NoCorners") [.type "Exception", .type "BaseException", .type "object"] "Exception.__new__" = true) (K_NoCorners : PySem.W.keepIn K (.ref (ca "NoCorners")) = true) (Q_NotBounded : PySem.W.excIn K (ca "NotBounded") [.type "Exception", .type "BaseException", .type "object"] "Exception.__new__" = true) (K_NotBounded : PySem.W.keepIn K (.ref (ca "NotBounded")) = true) (Q_NotPointed : PySem.W.excIn K (ca "NotPointed") [.type "Exception", .type "BaseException", .type "object"] "Exception.__new__" = true) (K_NotPointed : PySem.W.keepIn K (.ref (ca "NotPointed")) = true) (Q_Dependent : PySem.W.excIn K (ca "Dependent") [.type "Exception", .type "BaseException", .type "object"] "Exception.__new__" = true) (K_Dependent : PySem.W.keepIn K (.ref (ca "Dependent")) = true) (Q_NothingToUndo : PySem.W.excIn K (ca "NothingToUndo") [.type "Exception", .type "BaseException", .type "object"] "Exception.__new__" = true) (K_NothingToUndo : PySem.W.keepIn K (.ref (ca "NothingToUndo")) = true) (Q_NothingToRedo : PySem.W.excIn K (ca "NothingToRedo") [.type "Exception", .type "BaseException", .type "object"] "Exception.__new__" = true) (K_NothingToRedo : PySem.W.keepIn K (.ref (ca "NothingToRedo")) = true) (XS : Kxs K ca exNames) (XF : Kfs K ca exPairs) : FnOk P w K mg base CX0 1 f fd ["fields"] (spV K ca [false] false m__law_made) := by
  refine F.ok (k := 0) sc__law_made (fun vs H Q E h => spV_len _ _ _ _ h) (fun cdv A outer s H vs Q E hr h => ⟨ts__law_made K ca E, ?_, body_ok (n := 2) (ks := [false]) (fr := false) rfl (by decide) (fun P e1 e2 e3 => by subst e1 e2 e3; exact rs__law_made P XS XF) rfl h⟩)
  exact (pss_cons (ps_set (i := 1) sc__law_made.nd rfl (by first | exact Or.inl rfl | exact Or.inr rfl) (pe_lst (pa_cons (pe_mk0 PySem.F.excBase_Exception Q_BadTable G_BadTable K_BadTable (by rfl)) (pa_cons (pe_mk0 PySem.F.excBase_Exception Q_BadSides G_BadSides K_BadSides (by rfl)) (pa_cons (pe_mk0 PySem.F.excBase_Exception Q_BadBody G_BadBody K_BadBody (by rfl)) (pa_cons (pe_mk0 PySem.F.excBase_Exception Q_BadForm G_BadForm K_BadForm (by rfl)) (pa_cons (pe_mk0 PySem.F.excBase_Exception Q_BadCoins G_BadCoins K_BadCoins (by rfl)) (pa_cons (pe_mk0 PySem.F.excBase_Exception Q_BadPlace G_BadPlace K_BadPlace (by rfl)) (pa_cons (pe_mk0 PySem.F.excBase_Exception Q_BadDeed G_BadDeed K_BadDeed (by rfl)) (pa_cons (pe_mk0 PySem.F.excBase_Exception Q_BadTree G_BadTree K_BadTree (by rfl)) (pa_cons (pe_mk0 PySem.F.excBase_Exception Q_NotUnimodular G_NotUnimodular K_NotUnimodular (by rfl)) pa_nil)))))))))))
  (pss_cons (ps_set (i := 1) sc__law_made.nd rfl (by first | exact Or.inl rfl | exact Or.inr rfl) (pe_op op_cat (pv 1) (pe_lst (pa_cons (pe_mk0 PySem.F.excBase_Exception Q_NoIndex G_NoIndex K_NoIndex (by rfl)) (pa_cons (pe_mk0 PySem.F.excBase_Exception Q_NoCorners G_NoCorners K_NoCorners (by rfl)) (pa_cons (pe_mk0 PySem.F.excBase_Exception Q_NotBounded G_NotBounded K_NotBounded (by rfl)) (pa_cons (pe_mk0 PySem.F.excBase_Exception Q_NotPointed G_NotPointed K_NotPointed (by rfl)) (pa_cons (pe_mk0 PySem.F.excBase_Exception Q_Dependent G_Dependent K_Dependent (by rfl)) (pa_cons (pe_mk0 PySem.F.excBase_Exception Q_NothingToUndo G_NothingToUndo K_NothingToUndo (by rfl)) (pa_cons (pe_mk0 PySem.F.excBase_Exception Q_NothingToRedo G_NothingToRedo K_NothingToRedo (by rfl)) pa_nil))))))))))
  (pss_one (ps_ret (pe_op op_cat (pv 1) (pe_lst (pa_cons (pe_mk1 T_BadNumber ok_number hr (pa_cons (pe_ix (ix_list.or ix_tup) (pv 0) pe_int (fun _ _ => rfl)) pa_nil) (by rfl)) (pa_cons (pe_mk1 T_TooMany ok_bound hr (pa_cons (pe_ix (ix_list.or ix_tup) (pv 0) pe_int (fun _ _ => rfl)) pa_nil) (by rfl)) (pa_cons (pe_mk1 T_BadEntry ok_place hr (pa_cons (pe_ix (ix_list.or ix_tup) (pv 0) pe_int (fun _ _ => rfl)) pa_nil) (by rfl)) (pa_cons (pe_mk2 T_BadText hr (pa_cons (pe_ix (ix_list.or ix_tup) (pv 0) pe_int (fun _ _ => rfl)) (pa_cons (pe_ix (ix_list.or ix_tup) (pv 0) pe_int (fun _ _ => rfl)) pa_nil)) (by rfl)) pa_nil))))))))))
/-! ### _law_kinds -/
abbrev s__law_kinds : Stmt := topS 28
abbrev N__law_kinds : List Str := ["error", "found"]
theorem sc__law_kinds : FnScope N__law_kinds ["error"] (defScope s__law_kinds) := ⟨rfl, rfl, rfl, by decide +kernel, rfl, by decide +kernel, by decide +kernel⟩
abbrev ts__law_kinds (K : PySem.W.Frag) (ca : String → Addr) (E : XK) : TS :=
  (tSeq (tAsg (tLst (tCons (tCB (rIsX K) (tCons (tVar 0) (tCons (tC (.ref (ca "BadTable"))) tNil))) (tCons (tCB (rIsX K) (tCons (tVar 0) (tCons (tC (.ref (ca "BadSides"))) tNil))) (tCons (tCB (rIsX K) (tCons (tVar 0) (tCons (tC (.ref (ca "BadBody"))) tNil))) (tCons (tCB (rIsX K) (tCons (tVar 0) (tCons (tC (.ref (ca "BadForm"))) tNil))) tNil))))) (gName 1))
  (tSeq (tAsg (tOp rCat (tVar 1) (tLst (tCons (tCB (rIsX K) (tCons (tVar 0) (tCons (tC (.ref (ca "BadCoins"))) tNil))) (tCons (tCB (rIsX K) (tCons (tVar 0) (tCons (tC (.ref (ca "BadPlace"))) tNil))) (tCons (tCB (rIsX K) (tCons (tVar 0) (tCons (tC (.ref (ca "BadDeed"))) tNil))) tNil))))) (gName 1))
  (tSeq (tAsg (tOp rCat (tVar 1) (tLst (tCons (tCB (rIsX K) (tCons (tVar 0) (tCons (tC (.ref (ca "BadTree"))) tNil))) (tCons (tCB (rIsX K) (tCons (tVar 0) (tCons (tC (.ref (ca "NotUnimodular"))) tNil))) (tCons (tCB (rIsX K) (tCons (tVar 0) (tCons (tC (.ref (ca "NoIndex"))) tNil))) tNil))))) (gName 1))
  (tSeq (tAsg (tOp rCat (tVar 1) (tLst (tCons (tCB (rIsX K) (tCons (tVar 0) (tCons (tC (.ref (ca "NoCorners"))) tNil))) (tCons (tCB (rIsX K) (tCons (tVar 0) (tCons (tC (.ref (ca "NotBounded"))) tNil))) (tCons (tCB (rIsX K) (tCons (tVar 0) (tCons (tC (.ref (ca "NotPointed"))) tNil))) tNil))))) (gName 1))
  (tSeq (tAsg (tOp rCat (tVar 1) (tLst (tCons (tCB (rIsX K) (tCons (tVar 0) (tCons (tC (.ref (ca "Dependent"))) tNil))) (tCons (tCB (rIsX K) (tCons (tVar 0) (tCons (tC (.ref (ca "NothingToUndo"))) tNil))) (tCons (tCB (rIsX K) (tCons (tVar 0) (tCons (tC (.ref (ca "NothingToRedo"))) tNil))) tNil))))) (gName 1))
  (tSeq (tAsg (tOp rCat (tVar 1) (tLst (tCons (tCB (rIsX K) (tCons (tVar 0) (tCons (tC (.ref (ca "BadNumber"))) tNil))) (tCons (tCB (rIsX K) (tCons (tVar 0) (tCons (tC (.ref (ca "TooMany"))) tNil))) (tCons (tCB (rIsX K) (tCons (tVar 0) (tCons (tC (.ref (ca "BadEntry"))) tNil))) tNil))))) (gName 1))
  (tRet (tOp rCat (tVar 1) (tLst (tCons (tCB (rIsX K) (tCons (tVar 0) (tCons (tC (.ref (ca "BadText"))) tNil))) tNil))))))))))
def sv__law_kinds : Sv :=
  (sSeq (sSet 1 (eLst (aCons (eOp1 (dIsX exNames "BadTable") (eVar 0)) (aCons (eOp1 (dIsX exNames "BadSides") (eVar 0)) (aCons (eOp1 (dIsX exNames "BadBody") (eVar 0)) (aCons (eOp1 (dIsX exNames "BadForm") (eVar 0)) aNil))))))
  (sSeq (sSet 1 (eOp2 dCatS (eVar 1) (eLst (aCons (eOp1 (dIsX exNames "BadCoins") (eVar 0)) (aCons (eOp1 (dIsX exNames "BadPlace") (eVar 0)) (aCons (eOp1 (dIsX exNames "BadDeed") (eVar 0)) aNil))))))
  (sSeq (sSet 1 (eOp2 dCatS (eVar 1) (eLst (aCons (eOp1 (dIsX exNames "BadTree") (eVar 0)) (aCons (eOp1 (dIsX exNames "NotUnimodular") (eVar 0)) (aCons (eOp1 (dIsX exNames "NoIndex") (eVar 0)) aNil))))))
  (sSeq (sSet 1 (eOp2 dCatS (eVar 1) (eLst (aCons (eOp1 (dIsX exNames "NoCorners") (eVar 0)) (aCons (eOp1 (dIsX exNames "NotBounded") (eVar 0)) (aCons (eOp1 (dIsX exNames "NotPointed") (eVar 0)) aNil))))))
  (sSeq (sSet 1 (eOp2 dCatS (eVar 1) (eLst (aCons (eOp1 (dIsX exNames "Dependent") (eVar 0)) (aCons (eOp1 (dIsX exNames "NothingToUndo") (eVar 0)) (aCons (eOp1 (dIsX exNames "NothingToRedo") (eVar 0)) aNil))))))
  (sSeq (sSet 1 (eOp2 dCatS (eVar 1) (eLst (aCons (eOp1 (dIsX exNames "BadNumber") (eVar 0)) (aCons (eOp1 (dIsX exNames "TooMany") (eVar 0)) (aCons (eOp1 (dIsX exNames "BadEntry") (eVar 0)) aNil))))))
  (sRet (eOp2 dCatS (eVar 1) (eLst (aCons (eOp1 (dIsX exNames "BadText") (eVar 0)) aNil))))))))))
def m__law_kinds : Fm := fmOf [false] 2 sv__law_kinds
theorem rs__law_kinds (P : Cz) (XS : Kxs P.K P.ca exNames) (XF : Kfs P.K P.ca exPairs) : RS P ⟨[], true⟩ [] [0, 0] (ts__law_kinds P.K P.ca P.E) sv__law_kinds [] [0, 2] :=
  (rs_seq (rs_set (i := 1) (flx := [0, 2]) (re_lst (ra_cons (re_isX XS (m := "BadTable") (by decide) (re_var 0)) (ra_cons (re_isX XS (m := "BadSides") (by decide) (re_var 0)) (ra_cons (re_isX XS (m := "BadBody") (by decide) (re_var 0)) (ra_cons (re_isX XS (m := "BadForm") (by decide) (re_var 0)) ra_nil))))))
  (rs_seq (rs_set (i := 1) (flx := [0, 2]) (re_op2 os_catS (re_var 1) (re_lst (ra_cons (re_isX XS (m := "BadCoins") (by decide) (re_var 0)) (ra_cons (re_isX XS (m := "BadPlace") (by decide) (re_var 0)) (ra_cons (re_isX XS (m := "BadDeed") (by decide) (re_var 0)) ra_nil))))))
  (rs_seq (rs_set (i := 1) (flx := [0, 2]) (re_op2 os_catS (re_var 1) (re_lst (ra_cons (re_isX XS (m := "BadTree") (by decide) (re_var 0)) (ra_cons (re_isX XS (m := "NotUnimodular") (by decide) (re_var 0)) (ra_cons (re_isX XS (m := "NoIndex") (by decide) (re_var 0)) ra_nil))))))
  (rs_seq (rs_set (i := 1) (flx := [0, 2]) (re_op2 os_catS (re_var 1) (re_lst (ra_cons (re_isX XS (m := "NoCorners") (by decide) (re_var 0)) (ra_cons (re_isX XS (m := "NotBounded") (by decide) (re_var 0)) (ra_cons (re_isX XS (m := "NotPointed") (by decide) (re_var 0)) ra_nil))))))
  (rs_seq (rs_set (i := 1) (flx := [0, 2]) (re_op2 os_catS (re_var 1) (re_lst (ra_cons (re_isX XS (m := "Dependent") (by decide) (re_var 0)) (ra_cons (re_isX XS (m := "NothingToUndo") (by decide) (re_var 0)) (ra_cons (re_isX XS (m := "NothingToRedo") (by decide) (re_var 0)) ra_nil))))))
  (rs_seq (rs_set (i := 1) (flx := [0, 2]) (re_op2 os_catS (re_var 1) (re_lst (ra_cons (re_isX XS (m := "BadNumber") (by decide) (re_var 0)) (ra_cons (re_isX XS (m := "TooMany") (by decide) (re_var 0)) (ra_cons (re_isX XS (m := "BadEntry") (by decide) (re_var 0)) ra_nil))))))
  (rs_ret (re_op2 os_catS (re_var 1) (re_lst (ra_cons (re_isX XS (m := "BadText") (by decide) (re_var 0)) ra_nil))))))))))
theorem ok__law_kinds {P : Program} {w : World} {K : PySem.W.Frag} {mg : Str → Option Value} {base : Heap} {ca : String → Addr} {f : Addr} {fd : FuncData} (F : Fun K "_law_kinds" "_law_kinds" s__law_kinds f fd) (n_isinstance : mg "isinstance" = none) (G_BadBody : mg "BadBody" = some (.ref (ca "BadBody"))) (G_BadCoins : mg "BadCoins" = some (.ref (ca "BadCoins"))) (G_BadDeed : mg "BadDeed" = some (.ref (ca "BadDeed"))) (G_BadEntry : mg "BadEntry" = some (.ref (ca "BadEntry"))) (G_BadForm : mg "BadForm" = some (.ref (ca "BadForm"))) (G_BadNumber : mg "BadNumber" = some (.ref (ca "BadNumber"))) (G_BadPlace : mg "BadPlace" = some (.ref (ca "BadPlace"))) (G_BadSides : mg "BadSides" = some (.ref (ca "BadSides"))) (G_BadTable : mg "BadTable" = some (.ref (ca "BadTable"))) (G_BadText : mg "BadText" = some (.ref (ca "BadText"))) (G_BadTree : mg "BadTree" = some (.ref (ca "BadTree"))) (G_Dependent : mg "Dependent" = some (.ref (ca "Dependent"))) (G_NoCorners : mg "NoCorners" = some (.ref (ca "NoCorners"))) (G_NoIndex : mg "NoIndex" = some (.ref (ca "NoIndex"))) (G_NotBounded : mg "NotBounded" = some (.ref (ca "NotBounded"))) (G_NotPointed : mg "NotPointed" = some (.ref (ca "NotPointed"))) (G_NotUnimodular : mg "NotUnimodular" = some (.ref (ca "NotUnimodular"))) (G_NothingToRedo : mg "NothingToRedo" = some (.ref (ca "NothingToRedo"))) (G_NothingToUndo : mg "NothingToUndo" = some (.ref (ca "NothingToUndo"))) (G_TooMany : mg "TooMany" = some (.ref (ca "TooMany"))) (XS : Kxs K ca exNames) (XF : Kfs K ca exPairs) : FnOk P w K mg base CX0 1 f fd ["error"] (spV K ca [false] true m__law_kinds) := by
  refine F.ok (k := 0) sc__law_kinds (fun vs H Q E h => spV_len _ _ _ _ h) (fun cdv A outer s H vs Q E hr h => ⟨ts__law_kinds K ca E, ?_, body_ok (n := 2) (ks := [false]) (fr := true) rfl (by decide) (fun P e1 e2 e3 => by subst e1 e2 e3; exact rs__law_kinds P XS XF) rfl h⟩)
  exact (pss_cons (ps_set (i := 1) sc__law_kinds.nd rfl (by first | exact Or.inl rfl | exact Or.inr rfl) (pe_lst (pa_cons (pe_callB call_isX (by rfl) n_isinstance bt_isinstance (pa_cons (pv 0) (pa_cons (pe_glob (v := .ref (ca "BadTable")) (by rfl) G_BadTable rfl) pa_nil))) (pa_cons (pe_callB call_isX (by rfl) n_isinstance bt_isinstance (pa_cons (pv 0) (pa_cons (pe_glob (v := .ref (ca "BadSides")) (by rfl) G_BadSides rfl) pa_nil))) (pa_cons (pe_callB call_isX (by rfl) n_isinstance bt_isinstance (pa_cons (pv 0) (pa_cons (pe_glob (v := .ref (ca "BadBody")) (by rfl) G_BadBody rfl) pa_nil))) (pa_cons (pe_callB call_isX (by rfl) n_isinstance bt_isinstance (pa_cons (pv 0) (pa_cons (pe_glob (v := .ref (ca "BadForm")) (by rfl) G_BadForm rfl) pa_nil))) pa_nil))))))
  (pss_cons (ps_set (i := 1) sc__law_kinds.nd rfl (by first | exact Or.inl rfl | exact Or.inr rfl) (pe_op op_cat (pv 1) (pe_lst (pa_cons (pe_callB call_isX (by rfl) n_isinstance bt_isinstance (pa_cons (pv 0) (pa_cons (pe_glob (v := .ref (ca "BadCoins")) (by rfl) G_BadCoins rfl) pa_nil))) (pa_cons (pe_callB call_isX (by rfl) n_isinstance bt_isinstance (pa_cons (pv 0) (pa_cons (pe_glob (v := .ref (ca "BadPlace")) (by rfl) G_BadPlace rfl) pa_nil))) (pa_cons (pe_callB call_isX (by rfl) n_isinstance bt_isinstance (pa_cons (pv 0) (pa_cons (pe_glob (v := .ref (ca "BadDeed")) (by rfl) G_BadDeed rfl) pa_nil))) pa_nil))))))
  (pss_cons (ps_set (i := 1) sc__law_kinds.nd rfl (by first | exact Or.inl rfl | exact Or.inr rfl) (pe_op op_cat (pv 1) (pe_lst (pa_cons (pe_callB call_isX (by rfl) n_isinstance bt_isinstance (pa_cons (pv 0) (pa_cons (pe_glob (v := .ref (ca "BadTree")) (by rfl) G_BadTree rfl) pa_nil))) (pa_cons (pe_callB call_isX (by rfl) n_isinstance bt_isinstance (pa_cons (pv 0) (pa_cons (pe_glob (v := .ref (ca "NotUnimodular")) (by rfl) G_NotUnimodular rfl) pa_nil))) (pa_cons (pe_callB call_isX (by rfl) n_isinstance bt_isinstance (pa_cons (pv 0) (pa_cons (pe_glob (v := .ref (ca "NoIndex")) (by rfl) G_NoIndex rfl) pa_nil))) pa_nil))))))
  (pss_cons (ps_set (i := 1) sc__law_kinds.nd rfl (by first | exact Or.inl rfl | exact Or.inr rfl) (pe_op op_cat (pv 1) (pe_lst (pa_cons (pe_callB call_isX (by rfl) n_isinstance bt_isinstance (pa_cons (pv 0) (pa_cons (pe_glob (v := .ref (ca "NoCorners")) (by rfl) G_NoCorners rfl) pa_nil))) (pa_cons (pe_callB call_isX (by rfl) n_isinstance bt_isinstance (pa_cons (pv 0) (pa_cons (pe_glob (v := .ref (ca "NotBounded")) (by rfl) G_NotBounded rfl) pa_nil))) (pa_cons (pe_callB call_isX (by rfl) n_isinstance bt_isinstance (pa_cons (pv 0) (pa_cons (pe_glob (v := .ref (ca "NotPointed")) (by rfl) G_NotPointed rfl) pa_nil))) pa_nil))))))
  (pss_cons (ps_set (i := 1) sc__law_kinds.nd rfl (by first | exact Or.inl rfl | exact Or.inr rfl) (pe_op op_cat (pv 1) (pe_lst (pa_cons (pe_callB call_isX (by rfl) n_isinstance bt_isinstance (pa_cons (pv 0) (pa_cons (pe_glob (v := .ref (ca "Dependent")) (by rfl) G_Dependent rfl) pa_nil))) (pa_cons (pe_callB call_isX (by rfl) n_isinstance bt_isinstance (pa_cons (pv 0) (pa_cons (pe_glob (v := .ref (ca "NothingToUndo")) (by rfl) G_NothingToUndo rfl) pa_nil))) (pa_cons (pe_callB call_isX (by rfl) n_isinstance bt_isinstance (pa_cons (pv 0) (pa_cons (pe_glob (v := .ref (ca "NothingToRedo")) (by rfl) G_NothingToRedo rfl) pa_nil))) pa_nil))))))
  (pss_cons (ps_set (i := 1) sc__law_kinds.nd rfl (by first | exact Or.inl rfl | exact Or.inr rfl) (pe_op op_cat (pv 1) (pe_lst (pa_cons (pe_callB call_isX (by rfl) n_isinstance bt_isinstance (pa_cons (pv 0) (pa_cons (pe_glob (v := .ref (ca "BadNumber")) (by rfl) G_BadNumber rfl) pa_nil))) (pa_cons (pe_callB call_isX (by rfl) n_isinstance bt_isinstance (pa_cons (pv 0) (pa_cons (pe_glob (v := .ref (ca "TooMany")) (by rfl) G_TooMany rfl) pa_nil))) (pa_cons (pe_callB call_isX (by rfl) n_isinstance bt_isinstance (pa_cons (pv 0) (pa_cons (pe_glob (v := .ref (ca "BadEntry")) (by rfl) G_BadEntry rfl) pa_nil))) pa_nil))))))
  (pss_one (ps_ret (pe_op op_cat (pv 1) (pe_lst (pa_cons (pe_callB call_isX (by rfl) n_isinstance bt_isinstance (pa_cons (pv 0) (pa_cons (pe_glob (v := .ref (ca "BadText")) (by rfl) G_BadText rfl) pa_nil))) pa_nil)))))))))))
/-! ### _law_narrower -/
abbrev s__law_narrower : Stmt := topS 29
abbrev N__law_narrower : List Str := ["error", "narrow"]
theorem sc__law_narrower : FnScope N__law_narrower ["error"] (defScope s__law_narrower) := ⟨rfl, rfl, rfl, by decide +kernel, rfl, by decide +kernel, by decide +kernel⟩
abbrev ts__law_narrower (K : PySem.W.Frag) (ca : String → Addr) (E : XK) : TS :=
  (tSeq (tAsg (tOrV (tCB (rIsX K) (tCons (tVar 0) (tCons (tC (.ty "ValueError")) tNil))) (tOrV (tCB (rIsX K) (tCons (tVar 0) (tCons (tC (.ty "LookupError")) tNil))) (tCB (rIsX K) (tCons (tVar 0) (tCons (tC (.ty "ArithmeticError")) tNil))))) (gName 1))
  (tRet (tOrV (tVar 1) (tOrV (tCB (rIsX K) (tCons (tVar 0) (tCons (tC (.ty "TypeError")) tNil))) (tCB (rIsX K) (tCons (tVar 0) (tCons (tC (.ty "RuntimeError")) tNil)))))))
def sv__law_narrower : Sv :=
  (sSeq (sSet 1 (eOr (eOp1 (dIsB exNames "ValueError") (eVar 0)) (eOr (eOp1 (dIsB exNames "LookupError") (eVar 0)) (eOp1 (dIsB exNames "ArithmeticError") (eVar 0)))))
  (sRet (eOr (eScal (eVar 1)) (eOr (eOp1 (dIsB exNames "TypeError") (eVar 0)) (eOp1 (dIsB exNames "RuntimeError") (eVar 0))))))
def m__law_narrower : Fm := fmOf [false] 2 sv__law_narrower
theorem rs__law_narrower (P : Cz) (XS : Kxs P.K P.ca exNames) (XF : Kfs P.K P.ca exPairs) : RS P ⟨[], true⟩ [] [0, 0] (ts__law_narrower P.K P.ca P.E) sv__law_narrower [] [0, 2] :=
  (rs_seq (rs_set (i := 1) (flx := [0, 2]) (re_or (re_isXB XS (re_var 0)) (re_or (re_isXB XS (re_var 0)) (re_isXB XS (re_var 0)))))
  (rs_ret (re_or (re_scal (re_var 1)) (re_or (re_isXB XS (re_var 0)) (re_isXB XS (re_var 0))))))
theorem ok__law_narrower {P : Program} {w : World} {K : PySem.W.Frag} {mg : Str → Option Value} {base : Heap} {ca : String → Addr} {f : Addr} {fd : FuncData} (F : Fun K "_law_narrower" "_law_narrower" s__law_narrower f fd) (n_isinstance : mg "isinstance" = none) (n_ValueError : mg "ValueError" = none) (n_LookupError : mg "LookupError" = none) (n_ArithmeticError : mg "ArithmeticError" = none) (n_TypeError : mg "TypeError" = none) (n_RuntimeError : mg "RuntimeError" = none) (XS : Kxs K ca exNames) (XF : Kfs K ca exPairs) : FnOk P w K mg base CX0 1 f fd ["error"] (spV K ca [false] true m__law_narrower) := by
  refine F.ok (k := 0) sc__law_narrower (fun vs H Q E h => spV_len _ _ _ _ h) (fun cdv A outer s H vs Q E hr h => ⟨ts__law_narrower K ca E, ?_, body_ok (n := 2) (ks := [false]) (fr := true) rfl (by decide) (fun P e1 e2 e3 => by subst e1 e2 e3; exact rs__law_narrower P XS XF) rfl h⟩)
  exact (pss_cons (ps_set (i := 1) sc__law_narrower.nd rfl (by first | exact Or.inl rfl | exact Or.inr rfl) (pe_or (pe_callB call_isX (by rfl) n_isinstance bt_isinstance (pa_cons (pv 0) (pa_cons (pe_bltn (v := .ty "ValueError") (by rfl) n_ValueError bt_ValueError rfl) pa_nil))) (pe_or (pe_callB call_isX (by rfl) n_isinstance bt_isinstance (pa_cons (pv 0) (pa_cons (pe_bltn (v := .ty "LookupError") (by rfl) n_LookupError bt_LookupError rfl) pa_nil))) (pe_one (pe_callB call_isX (by rfl) n_isinstance bt_isinstance (pa_cons (pv 0) (pa_cons (pe_bltn (v := .ty "ArithmeticError") (by rfl) n_ArithmeticError bt_ArithmeticError rfl) pa_nil)))))))
  (pss_one (ps_ret (pe_or (pv 1) (pe_or (pe_callB call_isX (by rfl) n_isinstance bt_isinstance (pa_cons (pv 0) (pa_cons (pe_bltn (v := .ty "TypeError") (by rfl) n_TypeError bt_TypeError rfl) pa_nil))) (pe_one (pe_callB call_isX (by rfl) n_isinstance bt_isinstance (pa_cons (pv 0) (pa_cons (pe_bltn (v := .ty "RuntimeError") (by rfl) n_RuntimeError bt_RuntimeError rfl) pa_nil)))))))))
/-! ### _law_fields -/
abbrev s__law_fields : Stmt := topS 30
abbrev N__law_fields : List Str := ["errors"]
theorem sc__law_fields : FnScope N__law_fields ["errors"] (defScope s__law_fields) := ⟨rfl, rfl, rfl, by decide +kernel, rfl, by decide +kernel, by decide +kernel⟩
abbrev ts__law_fields (K : PySem.W.Frag) (ca : String → Addr) (E : XK) : TS :=
  (tRet (tLst (tCons (tFldX K "number" (tOp (zIxA K) (tVar 0) (tC (.int 16)))) (tCons (tFldX K "bound" (tOp (zIxA K) (tVar 0) (tC (.int 17)))) (tCons (tFldX K "place" (tOp (zIxA K) (tVar 0) (tC (.int 18)))) (tCons (tFldX K "line" (tOp (zIxA K) (tVar 0) (tC (.int 19)))) (tCons (tFldX K "column" (tOp (zIxA K) (tVar 0) (tC (.int 19)))) tNil)))))))
def sv__law_fields : Sv :=
  (sRet (eLst (aCons (eOp1 (dFldX exNames exPairs "number") (eOp2 dIx (eVar 0) (eC (.int 16)))) (aCons (eOp1 (dFldX exNames exPairs "bound") (eOp2 dIx (eVar 0) (eC (.int 17)))) (aCons (eOp1 (dFldX exNames exPairs "place") (eOp2 dIx (eVar 0) (eC (.int 18)))) (aCons (eOp1 (dFldX exNames exPairs "line") (eOp2 dIx (eVar 0) (eC (.int 19)))) (aCons (eOp1 (dFldX exNames exPairs "column") (eOp2 dIx (eVar 0) (eC (.int 19)))) aNil)))))))
def m__law_fields : Fm := fmOf [false] 1 sv__law_fields
theorem rs__law_fields (P : Cz) (XS : Kxs P.K P.ca exNames) (XF : Kfs P.K P.ca exPairs) : RS P ⟨[], true⟩ [] [0] (ts__law_fields P.K P.ca P.E) sv__law_fields [] [0] :=
  (rs_ret (re_lst (ra_cons (re_fldX XS XF (re_ix oc_ix (re_var 0) (re_int 16))) (ra_cons (re_fldX XS XF (re_ix oc_ix (re_var 0) (re_int 17))) (ra_cons (re_fldX XS XF (re_ix oc_ix (re_var 0) (re_int 18))) (ra_cons (re_fldX XS XF (re_ix oc_ix (re_var 0) (re_int 19))) (ra_cons (re_fldX XS XF (re_ix oc_ix (re_var 0) (re_int 19))) ra_nil)))))))
theorem ok__law_fields {P : Program} {w : World} {K : PySem.W.Frag} {mg : Str → Option Value} {base : Heap} {ca : String → Addr} {f : Addr} {fd : FuncData} (F : Fun K "_law_fields" "_law_fields" s__law_fields f fd) (XS : Kxs K ca exNames) (XF : Kfs K ca exPairs) : FnOk P w K mg base CX0 1 f fd ["errors"] (spV K ca [false] true m__law_fields) := by
  refine F.ok (k := 0) sc__law_fields (fun vs H Q E h => spV_len _ _ _ _ h) (fun cdv A outer s H vs Q E hr h => ⟨ts__law_fields K ca E, ?_, body_ok (n := 1) (ks := [false]) (fr := true) rfl (by decide) (fun P e1 e2 e3 => by subst e1 e2 e3; exact rs__law_fields P XS XF) rfl h⟩)
  exact (pss_one (ps_ret (pe_lst (pa_cons (pe_fldX (pe_ix (ix_list.or ix_tup) (pv 0) pe_int (fun _ _ => rfl))) (pa_cons (pe_fldX (pe_ix (ix_list.or ix_tup) (pv 0) pe_int (fun _ _ => rfl))) (pa_cons (pe_fldX (pe_ix (ix_list.or ix_tup) (pv 0) pe_int (fun _ _ => rfl))) (pa_cons (pe_fldX (pe_ix (ix_list.or ix_tup) (pv 0) pe_int (fun _ _ => rfl))) (pa_cons (pe_fldX (pe_ix (ix_list.or ix_tup) (pv 0) pe_int (fun _ _ => rfl))) pa_nil))))))))
/-! ### _law_drawn -/
abbrev s__law_drawn : Stmt := topS 31
abbrev N__law_drawn : List Str := ["pool", "great", "number", "bound", "line"]
theorem sc__law_drawn : FnScope N__law_drawn ["pool"] (defScope s__law_drawn) := ⟨rfl, rfl, rfl, by decide +kernel, rfl, by decide +kernel, by decide +kernel⟩
abbrev ts__law_drawn (K : PySem.W.Frag) (ca : String → Addr) (E : XK) : TS :=
  (tSeq (tAsg (tOp zAdd (tOp zPow (tC (.int 10)) (tC (.int 60))) (tCall (spV K ca [true, false, false] true m__law_within) [] E (tCons (tVar 0) (tCons (tC (.int 1)) (tCons (tOp zPow (tC (.int 10)) (tC (.int 9))) tNil))))) (gName 1))
  (tSeq (tAsg (tOp (zIxA K) (tLst (tCons (tVar 1) (tCons (tOp zSub (tC (.int 0)) (tVar 1)) (tCons (tOp zMul (tVar 1) (tVar 1)) (tCons (tCall (spV K ca [true, false, false] true m__law_within) [] E (tCons (tVar 0) (tCons (tOp zSub (tC (.int 0)) (tOp zPow (tC (.int 10)) (tC (.int 9)))) (tCons (tOp zPow (tC (.int 10)) (tC (.int 9))) tNil)))) (tCons (tC (.int 0)) tNil)))))) (tCall (spV K ca [true, false] true m__law_pick) [] E (tCons (tVar 0) (tCons (tC (.int 5)) tNil)))) (gName 2))
  (tSeq (tAsg (tOp (zIxA K) (tLst (tCons (tC (.int 2000)) (tCons (tC (.int 200)) (tCons (tC (.int 40)) (tCons (tCall (spV K ca [true, false, false] true m__law_within) [] E (tCons (tVar 0) (tCons (tC (.int 1)) (tCons (tOp zPow (tC (.int 10)) (tC (.int 9))) tNil)))) (tCons (tVar 1) tNil)))))) (tCall (spV K ca [true, false] true m__law_pick) [] E (tCons (tVar 0) (tCons (tC (.int 5)) tNil)))) (gName 3))
  (tSeq (tAsg (tCall (spV K ca [true, false, false] true m__law_within) [] E (tCons (tVar 0) (tCons (tC (.int 1)) (tCons (tC (.int 200)) tNil)))) (gName 4))
  (tRet (tLst (tCons (tVar 2) (tCons (tVar 3) (tCons (tCall (spV K ca [true, false, false] true m__law_within) [] E (tCons (tVar 0) (tCons (tC (.int 0)) (tCons (tC (.int 300)) tNil)))) (tCons (tVar 4) (tCons (tOp zAdd (tVar 4) (tCall (spV K ca [true, false, false] true m__law_within) [] E (tCons (tVar 0) (tCons (tC (.int 1)) (tCons (tC (.int 90)) tNil))))) tNil)))))))))))
def sv__law_drawn : Sv :=
  (sSeq (sSet 1 (eOp2 dAdd (eOp2 dPow (eC (.int 10)) (eC (.int 60))) (eCall m__law_within [some 0, none, none] (aIo 0 (aCons (eC (.int 1)) (aCons (eOp2 dPow (eC (.int 10)) (eC (.int 9))) aNil))))))
  (sSeq (sSet 2 (eOp2 dIx (eLst (aCons (eScal (eVar 1)) (aCons (eOp2 dSub (eC (.int 0)) (eScal (eVar 1))) (aCons (eOp2 dMul (eScal (eVar 1)) (eScal (eVar 1))) (aCons (eCall m__law_within [some 0, none, none] (aIo 0 (aCons (eOp2 dSub (eC (.int 0)) (eOp2 dPow (eC (.int 10)) (eC (.int 9)))) (aCons (eOp2 dPow (eC (.int 10)) (eC (.int 9))) aNil)))) (aCons (eC (.int 0)) aNil)))))) (eCall m__law_pick [some 0, none] (aIo 0 (aCons (eC (.int 5)) aNil)))))
  (sSeq (sSet 3 (eOp2 dIx (eLst (aCons (eC (.int 2000)) (aCons (eC (.int 200)) (aCons (eC (.int 40)) (aCons (eCall m__law_within [some 0, none, none] (aIo 0 (aCons (eC (.int 1)) (aCons (eOp2 dPow (eC (.int 10)) (eC (.int 9))) aNil)))) (aCons (eScal (eVar 1)) aNil)))))) (eCall m__law_pick [some 0, none] (aIo 0 (aCons (eC (.int 5)) aNil)))))
  (sSeq (sSet 4 (eCall m__law_within [some 0, none, none] (aIo 0 (aCons (eC (.int 1)) (aCons (eC (.int 200)) aNil)))))
  (sRet (eLst (aCons (eScal (eVar 2)) (aCons (eScal (eVar 3)) (aCons (eCall m__law_within [some 0, none, none] (aIo 0 (aCons (eC (.int 0)) (aCons (eC (.int 300)) aNil)))) (aCons (eScal (eVar 4)) (aCons (eOp2 dAdd (eScal (eVar 4)) (eCall m__law_within [some 0, none, none] (aIo 0 (aCons (eC (.int 1)) (aCons (eC (.int 90)) aNil))))) aNil)))))))))))
def m__law_drawn : Fm := fmOf [true] 5 sv__law_drawn
theorem rs__law_drawn (P : Cz) : RS P ⟨[0], true⟩ [] [3, 0, 0, 0, 0] (ts__law_drawn P.K P.ca P.E) sv__law_drawn [] [3, 2, 2, 2, 2] :=
  (rs_seq (rs_set (i := 1) (flx := [3, 2, 0, 0, 0]) (re_op2 os_add (re_op2 os_pow (re_int 10) (re_int 60)) (re_call (kb := [true, false, false]) (ra_io (i := 0) (ra_cons (re_int 1) (ra_cons (re_op2 os_pow (re_int 10) (re_int 9)) ra_nil))))))
  (rs_seq (rs_set (i := 2) (flx := [3, 2, 2, 0, 0]) (re_ix oc_ix (re_lst (ra_cons (re_scal (re_var 1)) (ra_cons (re_op2 os_sub (re_int 0) (re_scal (re_var 1))) (ra_cons (re_op2 os_mul (re_scal (re_var 1)) (re_scal (re_var 1))) (ra_cons (re_call (kb := [true, false, false]) (ra_io (i := 0) (ra_cons (re_op2 os_sub (re_int 0) (re_op2 os_pow (re_int 10) (re_int 9))) (ra_cons (re_op2 os_pow (re_int 10) (re_int 9)) ra_nil)))) (ra_cons (re_int 0) ra_nil)))))) (re_call (kb := [true, false]) (ra_io (i := 0) (ra_cons (re_int 5) ra_nil)))))
  (rs_seq (rs_set (i := 3) (flx := [3, 2, 2, 2, 0]) (re_ix oc_ix (re_lst (ra_cons (re_int 2000) (ra_cons (re_int 200) (ra_cons (re_int 40) (ra_cons (re_call (kb := [true, false, false]) (ra_io (i := 0) (ra_cons (re_int 1) (ra_cons (re_op2 os_pow (re_int 10) (re_int 9)) ra_nil)))) (ra_cons (re_scal (re_var 1)) ra_nil)))))) (re_call (kb := [true, false]) (ra_io (i := 0) (ra_cons (re_int 5) ra_nil)))))
  (rs_seq (rs_set (i := 4) (flx := [3, 2, 2, 2, 2]) (re_call (kb := [true, false, false]) (ra_io (i := 0) (ra_cons (re_int 1) (ra_cons (re_int 200) ra_nil)))))
  (rs_ret (re_lst (ra_cons (re_scal (re_var 2)) (ra_cons (re_scal (re_var 3)) (ra_cons (re_call (kb := [true, false, false]) (ra_io (i := 0) (ra_cons (re_int 0) (ra_cons (re_int 300) ra_nil)))) (ra_cons (re_scal (re_var 4)) (ra_cons (re_op2 os_add (re_scal (re_var 4)) (re_call (kb := [true, false, false]) (ra_io (i := 0) (ra_cons (re_int 1) (ra_cons (re_int 90) ra_nil))))) ra_nil)))))))))))
theorem ok__law_drawn {P : Program} {w : World} {K : PySem.W.Frag} {mg : Str → Option Value} {base : Heap} {ca : String → Addr} {f : Addr} {fd : FuncData} (F : Fun K "_law_drawn" "_law_drawn" s__law_drawn f fd) (c__law_within : Cal P w K mg base CX0 "_law_within" 2 ["pool", "low", "high"] (spV K ca [true, false, false] true m__law_within)) (c__law_pick : Cal P w K mg base CX0 "_law_pick" 1 ["pool", "many"] (spV K ca [true, false] true m__law_pick)) : FnOk P w K mg base CX0 3 f fd ["pool"] (spV K ca [true] true m__law_drawn) := by
  refine F.ok (k := 2) sc__law_drawn (fun vs H Q E h => spV_len _ _ _ _ h) (fun cdv A outer s H vs Q E hr h => ⟨ts__law_drawn K ca E, ?_, body_ok (n := 5) (ks := [true]) (fr := true) rfl (by decide) (fun P e1 e2 e3 => by subst e1 e2 e3; exact rs__law_drawn P) rfl h⟩)
  exact (pss_cons (ps_set (i := 1) sc__law_drawn.nd rfl (by first | exact Or.inl rfl | exact Or.inr rfl) (pe_op op_add (pe_op op_pow pe_int pe_int) (pe_cal c__law_within (hr.mono (by decide)) (by rfl) (pa_cons (pv 0) (pa_cons pe_int (pa_cons (pe_op op_pow pe_int pe_int) pa_nil))))))
  (pss_cons (ps_set (i := 2) sc__law_drawn.nd rfl (by first | exact Or.inl rfl | exact Or.inr rfl) (pe_ix (ix_list.or ix_tup) (pe_lst (pa_cons (pv 1) (pa_cons (pe_op op_sub pe_int (pv 1)) (pa_cons (pe_op op_mulW (pv 1) (pv 1)) (pa_cons (pe_cal c__law_within (hr.mono (by decide)) (by rfl) (pa_cons (pv 0) (pa_cons (pe_op op_sub pe_int (pe_op op_pow pe_int pe_int)) (pa_cons (pe_op op_pow pe_int pe_int) pa_nil)))) (pa_cons pe_int pa_nil)))))) (pe_cal c__law_pick (hr.mono (by decide)) (by rfl) (pa_cons (pv 0) (pa_cons pe_int pa_nil))) (fun _ _ => rfl)))
  (pss_cons (ps_set (i := 3) sc__law_drawn.nd rfl (by first | exact Or.inl rfl | exact Or.inr rfl) (pe_ix (ix_list.or ix_tup) (pe_lst (pa_cons pe_int (pa_cons pe_int (pa_cons pe_int (pa_cons (pe_cal c__law_within (hr.mono (by decide)) (by rfl) (pa_cons (pv 0) (pa_cons pe_int (pa_cons (pe_op op_pow pe_int pe_int) pa_nil)))) (pa_cons (pv 1) pa_nil)))))) (pe_cal c__law_pick (hr.mono (by decide)) (by rfl) (pa_cons (pv 0) (pa_cons pe_int pa_nil))) (fun _ _ => rfl)))
  (pss_cons (ps_set (i := 4) sc__law_drawn.nd rfl (by first | exact Or.inl rfl | exact Or.inr rfl) (pe_cal c__law_within (hr.mono (by decide)) (by rfl) (pa_cons (pv 0) (pa_cons pe_int (pa_cons pe_int pa_nil)))))
  (pss_one (ps_ret (pe_lst (pa_cons (pv 2) (pa_cons (pv 3) (pa_cons (pe_cal c__law_within (hr.mono (by decide)) (by rfl) (pa_cons (pv 0) (pa_cons pe_int (pa_cons pe_int pa_nil)))) (pa_cons (pv 4) (pa_cons (pe_op op_add (pv 4) (pe_cal c__law_within (hr.mono (by decide)) (by rfl) (pa_cons (pv 0) (pa_cons pe_int (pa_cons pe_int pa_nil))))) pa_nil))))))))))))
/-! ### _law_alike -/
abbrev s__law_alike : Stmt := topS 35
abbrev N__law_alike : List Str := ["told", "due", "one", "other"]
theorem sc__law_alike : FnScope N__law_alike ["told", "due"] (defScope s__law_alike) := ⟨rfl, rfl, rfl, by decide +kernel, rfl, by decide +kernel, by decide +kernel⟩
abbrev ts__law_alike (K : PySem.W.Frag) (ca : String → Addr) (E : XK) : TS :=
  (tSeq (tIfS (tOr (tTest (tOp (rNeD K) (tCB (zLen K) (tCons (tVar 0) tNil)) (tCB (zLen K) (tCons (tVar 1) tNil)))) (tTru K (tCB (rAny K) (tCons (tLc (iList K (tVar 0)) (gName 2) tYes (tOrV (tCB (rIsi K) (tCons (tVar 2) (tCons (tC (.ty "bool")) tNil))) (tNotV (tCB (rIsi K) (tCons (tVar 2) (tCons (tC (.ty "int")) tNil))))) [2]) tNil)))) (tRet (tC (.bl false))) tNext)
  (tRet (tCB (rAll K) (tCons (tLc (iZip K (tCons (tVar 0) (tCons (tVar 1) tNil))) (Tg.g K (.tp [2, 3])) tYes (tOp (rEqD K) (tVar 2) (tVar 3)) [2, 3]) tNil))))
def ce1__law_alike : Ev :=
  (eOr (eOp1 (dIsi "bool") (eVar 2)) (eNot (eOp1 (dIsi "int") (eVar 2))))
def ce2__law_alike : Ev :=
  (eOp2 dEq (eVar 2) (eScal (eVar 3)))
def sv__law_alike : Sv :=
  (sSeq (sIf (tvOr (tvB (eOp2 dNe (eOp1 dLen (eVar 0)) (eOp1 dLen (eVar 1)))) (tvTru (eOp1 dAny (eLc (ivL (eVar 0)) (.nm 2) tvYes ce1__law_alike [2])))) (sRet (eC (.bl false))) sNil)
  (sRet (eOp1 dAll (eLc (ivZ (eVar 0) (eVar 1)) (.tp [2, 3]) tvYes ce2__law_alike [2, 3]))))
def m__law_alike : Fm := fmOf [false, false] 4 sv__law_alike
theorem rs__law_alike (P : Cz) : RS P ⟨[], true⟩ [] [0, 0, 0, 0] (ts__law_alike P.K P.ca P.E) sv__law_alike [] [0, 0, 0, 0] :=
  (rs_seq (rs_if (rt_or (rt_b (re_op2 os_ne (re_b1 os_len (re_var 0)) (re_b1 os_len (re_var 1)))) (rt_tru (re_b1 os_any (re_lc (t := (.nm 2)) (vs := [2]) (lvb := [0]) (ri_list (re_var 0)) rt_yes (re_or (re_isi (T := "bool") (re_var 2)) (re_notV (re_isi (T := "int") (re_var 2)))))))) (rs_ret (re_bl false)) rs_nil)
  (rs_ret (re_b1 os_all (re_lc (t := (.tp [2, 3])) (vs := [2, 3]) (lvb := [0, 1]) (ri_zip (re_var 0) (re_var 1)) rt_yes (re_op2 os_eq (re_var 2) (re_scal (re_var 3)))))))
theorem ok__law_alike {P : Program} {w : World} {K : PySem.W.Frag} {mg : Str → Option Value} {base : Heap} {ca : String → Addr} {f : Addr} {fd : FuncData} (F : Fun K "_law_alike" "_law_alike" s__law_alike f fd) (n_len : mg "len" = none) (n_isinstance : mg "isinstance" = none) (n_bool : mg "bool" = none) (n_int : mg "int" = none) (n_any : mg "any" = none) (n_zip : mg "zip" = none) (n_all : mg "all" = none) : FnOk P w K mg base CX0 1 f fd ["told", "due"] (spV K ca [false, false] true m__law_alike) := by
  refine F.ok (k := 0) sc__law_alike (fun vs H Q E h => spV_len _ _ _ _ h) (fun cdv A outer s H vs Q E hr h => ⟨ts__law_alike K ca E, ?_, body_ok (n := 4) (ks := [false, false]) (fr := true) rfl (by decide) (fun P e1 e2 e3 => by subst e1 e2 e3; exact rs__law_alike P) rfl h⟩)
  exact (pss_cons (ps_if (PW.pt (pw_or (pt_cmpR (op_neD hr.units) (pe_callB call_len_seq (by rfl) n_len bt_len (pa_cons (pv 0) pa_nil)) (pe_callB call_len_seq (by rfl) n_len bt_len (pa_cons (pv 1) pa_nil)) (nomark _)) (pw_or1 (pt_truth (pe_callB (cr_any rfl) (by rfl) n_any bt_any (pa_cons (pe_lc (own := [("one", 2)]) (g := (gName 2)) (tt := tYes) (te := (tOrV (tCB (rIsi K) (tCons (tVar 2) (tCons (tC (.ty "bool")) tNil))) (tNotV (tCB (rIsi K) (tCons (tVar 2) (tCons (tC (.ty "int")) tNil)))))) rfl sc__law_alike.nd (pi_list (pv 0)) (blkOk_by (N := N__law_alike) (sc := (defScope s__law_alike)) (by decide +kernel)) (fun _ _ _ _ _ => (pg_name (i := 2) sc__law_alike.nd rfl (by first | exact Or.inl rfl | exact Or.inr rfl))) (fun _ _ _ _ _ => pts_nil) (fun _ _ _ _ _ => (pe_or (pe_callB call_isi (by rfl) n_isinstance bt_isinstance (pa_cons (pv 2) (pa_cons (pe_bltn (v := .ty "bool") (by rfl) n_bool bt_bool rfl) pa_nil))) (pe_one (pe_not (pe_callB call_isi (by rfl) n_isinstance bt_isinstance (pa_cons (pv 2) (pa_cons (pe_bltn (v := .ty "int") (by rfl) n_int bt_int rfl) pa_nil)))))))) pa_nil)) (by intro _; rfl))))) (pss_one (ps_ret pe_bl)) pss_nil)
  (pss_one (ps_ret (pe_callB (cr_all rfl) (by rfl) n_all bt_all (pa_cons (pe_lc (own := [("one", 2), ("other", 3)]) (g := (Tg.g K (.tp [2, 3]))) (tt := tYes) (te := (tOp (rEqD K) (tVar 2) (tVar 3))) rfl sc__law_alike.nd (pi_zip (by rfl) n_zip (pa_cons (pv 0) (pa_cons (pv 1) pa_nil))) (blkOk_by (N := N__law_alike) (sc := (defScope s__law_alike)) (by decide +kernel)) (fun _ _ _ _ _ => (pg_tup rfl (pgs_cons (pg_name (i := 2) sc__law_alike.nd rfl (by first | exact Or.inl rfl | exact Or.inr rfl)) (pgs_cons (pg_name (i := 3) sc__law_alike.nd rfl (by first | exact Or.inl rfl | exact Or.inr rfl)) pgs_nil)))) (fun _ _ _ _ _ => pts_nil) (fun _ _ _ _ _ => (pe_cmpR (op_eqD hr.units) (pv 2) (pv 3) (nomark _)))) pa_nil)))))
end Gk00
namespace Gk00
open PySem PySem.Spec L2 VL
theorem post_new {K : PySem.W.Frag} {H H' : Hp} {ks : List Bool} {vs : List V} {Fv F' : List Addr} {d : D} {v : V} (frm : ∀ b o, H b = some o → H' b = some o) (rp : Rp K H' v d F') (nd : F'.Nodup) (fr : ∀ b ∈ F', H b = none ∧ Live H' b) (io : IOut K H H' ks vs [] [] []) : Post K H H' ks true vs Fv [] d [] v F' [] :=
  ⟨fun b o hb _ => frm b o hb, fun b o hb => ⟨o, frm b o hb⟩, rp, io, List.nodup_nil, (fun F hF => nomatch hF), (fun b hb => ⟨(fun F hF => nomatch hF), .inl (fr b hb).1⟩), fun _ => ⟨nd, fr⟩⟩
theorem takesF {X : Cx} : Takes X (fun _ _ _ _ => False) := fun u s' ⟨_, _, _, _, _, _, _, _, _, _, _, _, _, _, _, _, z⟩ => z.elim
/-! ### _law_number_raised -/
abbrev s__law_number_raised : Stmt := topS 32
abbrev N__law_number_raised : List Str := ["number", "e"]
theorem sc__law_number_raised : FnScope N__law_number_raised ["number"] (defScope s__law_number_raised) := ⟨rfl, rfl, rfl, by decide +kernel, rfl, by decide +kernel, by decide +kernel⟩
def m__law_number_raised : Fm := fun ds => match ds with
  | [.int n] => some (.ok (.int n), [])
  | _ => none
abbrev tb_number (ca : String → Addr) (W : WX) : TS := tRaiseG (ca "BadNumber") "number" W (tCons (tVar 0) tNil)
theorem ok__law_number_raised {P : Program} {w : World} {K : PySem.W.Frag} {mg : Str → Option Value} {base : Heap} {ca : String → Addr} {f : Addr} {fd : FuncData} (F : Fun K "_law_number_raised" "_law_number_raised" s__law_number_raised f fd) {B_ I_ : Addr} (T : EG.GTxt P K mg "number" "BadNumber" (ca "BadNumber") B_ I_)
    (G_BadTable : mg "BadTable" = some (.ref (ca "BadTable"))) (G_BadNumber : mg "BadNumber" = some (.ref (ca "BadNumber"))) (XS : Kxs K ca exNames) (XF : Kfs K ca exPairs) : FnOk P w K mg base CX0 1 f fd ["number"] (spV K ca [false] true m__law_number_raised) := by
  refine F.ok (k := 0) sc__law_number_raised (fun vs H Q E h => spV_len _ _ _ _ h) (fun cdv A outer s H vs Q E hr h => ⟨_, pss_one (ps_tryC (tb := tb_number ca) (Wout := fun _ _ _ _ => False) (l := [⟨.ref (ca "BadTable"), none, fun _ _ _ => tRet (tC .non)⟩, ⟨.ref (ca "BadNumber"), some 1, fun a cls d => tRet (tFldS K "number" a cls d (tVar 1))⟩]) rfl rfl sc__law_number_raised.nd takesF
    (fun W pn xe tk _ => pss_one (ps_raiseG rfl T fok_number hr tk (pa_cons (pv 0) pa_nil) (by rfl)))
    (.cons ⟨by rfl, by rfl, .inl G_BadTable⟩ trivial (fun a oe cls d pn hz hd => pss_one (ps_ret pe_non)) (.cons ⟨by rfl, by rfl, .inl G_BadNumber⟩ ⟨rfl, rfl⟩ (fun a oe cls d pn hz hd => pss_one (ps_ret (pe_fldS hz hd (pv 1)))) .nil))), ?rd⟩)
  case rd =>
    obtain ⟨ds, Fv, Ms, r, ios, hA, hN, hL, hf, hq⟩ := h
    unfold m__law_number_raised at hf
    split at hf
    rotate_left
    · cases hf
    rename_i n
    cases hf
    cases hA with
    | val r0 hA =>
      cases hA
      cases r0
      refine ⟨.int n, rfl, .int n, rfl, fun d hd => ?_⟩
      refine ⟨false, (XS.exm (n := "BadNumber") (m := "BadTable") (by decide) (by decide)).trans (by decide), (fun z => nomatch z), fun _ => ⟨true, (XS.exm (n := "BadNumber") (m := "BadNumber") (by decide) (by decide)).trans (by decide), (fun _ a na => ?_), fun z => nomatch z⟩⟩
      refine ⟨.ref a, rfl, rfl, ca "BadNumber", d, _, .int n, rfl, rfl, upd_same, rfl, XS.fld XF (by decide) (by decide), ?_⟩
      exact hq (.int n) _ [] [] (post_new (upd_keep hd) (.int n) List.nodup_nil (fun b hb => nomatch hb) (.val .nil))
/-! ### _law_text_raised -/
abbrev s__law_text_raised : Stmt := topS 33
abbrev N__law_text_raised : List Str := ["line", "column", "e"]
theorem sc__law_text_raised : FnScope N__law_text_raised ["line", "column"] (defScope s__law_text_raised) := ⟨rfl, rfl, rfl, by decide +kernel, rfl, by decide +kernel, by decide +kernel⟩
def m__law_text_raised : Fm := fun ds => match ds with
  | [.int n, .int m] => some (.ok (.lst [.int n, .int m]), [])
  | _ => none
abbrev tb_text (ca : String → Addr) (W : WX) : TS := fun _ σ H => tMkT (ca "BadText") (tCons (tVar 0) (tCons (tVar 1) tNil)) σ H fun cls d H' => W cls d σ H'
theorem ok__law_text_raised {P : Program} {w : World} {K : PySem.W.Frag} {mg : Str → Option Value} {base : Heap} {ca : String → Addr} {f : Addr} {fd : FuncData} (F : Fun K "_law_text_raised" "_law_text_raised" s__law_text_raised f fd) {B_ I_ : Addr} (T : ET.TTxt P K mg (ca "BadText") B_ I_)
    (G_NotUnimodular : mg "NotUnimodular" = some (.ref (ca "NotUnimodular"))) (G_BadText : mg "BadText" = some (.ref (ca "BadText"))) (XS : Kxs K ca exNames) (XF : Kfs K ca exPairs) : FnOk P w K mg base CX0 1 f fd ["line", "column"] (spV K ca [false, false] true m__law_text_raised) := by
  refine F.ok (k := 0) sc__law_text_raised (fun vs H Q E h => spV_len _ _ _ _ h) (fun cdv A outer s H vs Q E hr h => ⟨_, pss_one (ps_tryC (tb := tb_text ca) (Wout := fun _ _ _ _ => False) (l := [⟨.ref (ca "NotUnimodular"), none, fun _ _ _ => tRet (tC .non)⟩, ⟨.ref (ca "BadText"), some 2, fun a cls d => tRet (tLst (tCons (tFldS K "line" a cls d (tVar 2)) (tCons (tFldS K "column" a cls d (tVar 2)) tNil)))⟩]) rfl rfl sc__law_text_raised.nd takesF
    (fun W pn xe tk _ => pss_one (ps_raise rfl tk (pmk_t T hr (pa_cons (pv 0) (pa_cons (pv 1) pa_nil)) (by rfl))))
    (.cons ⟨by rfl, by rfl, .inl G_NotUnimodular⟩ trivial (fun a oe cls d pn hz hd => pss_one (ps_ret pe_non)) (.cons ⟨by rfl, by rfl, .inl G_BadText⟩ ⟨rfl, rfl⟩ (fun a oe cls d pn hz hd => pss_one (ps_ret (pe_lst (pa_cons (pe_fldS hz hd (pv 2)) (pa_cons (pe_fldS hz hd (pv 2)) pa_nil))))) .nil))), ?rd⟩)
  case rd =>
    obtain ⟨ds, Fv, Ms, r, ios, hA, hN, hL, hf, hq⟩ := h
    unfold m__law_text_raised at hf
    split at hf
    rotate_left
    · cases hf
    rename_i n m
    cases hf
    cases hA with
    | val r0 hA =>
      cases hA with
      | val r1 hA =>
        cases hA
        cases r0
        cases r1
        refine ⟨.int n, rfl, .int m, rfl, .int n, .int m, rfl, fun d hd => ?_⟩
        refine ⟨false, (XS.exm (n := "BadText") (m := "NotUnimodular") (by decide) (by decide)).trans (by decide), (fun z => nomatch z), fun _ => ⟨true, (XS.exm (n := "BadText") (m := "BadText") (by decide) (by decide)).trans (by decide), (fun _ a na => ?_), fun z => nomatch z⟩⟩
        refine ⟨.ref a, rfl, rfl, ca "BadText", d, _, .int n, rfl, rfl, upd_same, rfl, XS.fld XF (by decide) (by decide), ?_⟩
        refine ⟨.ref a, rfl, rfl, ca "BadText", d, _, .int m, rfl, rfl, upd_same, rfl, XS.fld XF (by decide) (by decide), ?_⟩
        refine ⟨(by show 2 ≤ sizeLine; rw [sizeLine_eq]; omega), fun p hp => ?_⟩
        have hp0 : H p = none := by
          by_cases e : p = d
          · rw [e]; exact hd
          · rw [upd_ne e] at hp
            exact hp
        refine hq (.ref p) _ [p] [] (post_new (fun b o hb => upd_keep hp b o (upd_keep hd b o hb)) ?_ (by simp) (fun b hb => ?_) (.val (.val .nil)))
        · exact .lst (F := []) upd_same (by show 2 ≤ sizeLine; rw [sizeLine_eq]; omega) (.cons (F := []) (.int n) (.cons (F := []) (.int m) .nil))
        · have : b = p := by simpa using hb
          subst this
          exact ⟨hp0, live_lst⟩
/-! ### _law_under_the_base -/
abbrev s__law_under_the_base : Stmt := topS 34
abbrev N__law_under_the_base : List Str := ["place"]
theorem sc__law_under_the_base : FnScope N__law_under_the_base ["place"] (defScope s__law_under_the_base) := ⟨rfl, rfl, rfl, by decide +kernel, rfl, by decide +kernel, by decide +kernel⟩
def m__law_under_the_base : Fm := fun ds => match ds with
  | [.int n] => some (.ok (.bl true), [])
  | _ => none
abbrev tR0 (C : Addr) (W : WX) : TS := fun _ σ H => W (.ref C) none σ H
abbrev tEq0 (K : PySem.W.Frag) (c : Int) : TT := tTest (tOp (rEqD K) (tVar 0) (tC (.int c)))
abbrev tb_base (K : PySem.W.Frag) (ca : String → Addr) (W : WX) : TS := tSeq (tIfS (tEq0 K 0) (tR0 (ca "BadSides") W) tNext) (tSeq (tIfS (tEq0 K 1) (tR0 (ca "NotBounded") W) tNext) (tSeq (tIfS (tEq0 K 2) (tR0 (ca "NothingToRedo") W) tNext) (tR0 (ca "BadTree") W)))
theorem eq_test {K : PySem.W.Frag} {σ : L2.St} {H : Hp} {p c : Int} {Q' : Bool → Hp → Prop} (hσ : σ[0]? = some (some (.int p))) (h : ∀ H', (∀ b o, H b = some o → H' b = some o) → Q' (decide (p = c)) H') : tEq0 K c σ H Q' := by
  refine ⟨.int p, hσ, ?_⟩
  show rEqD K (.int p) (.int c) H (fun x H' => ∃ k, x = .bl k ∧ Q' k H')
  refine os_eq (K := K) H _ _ _ _ _ _ _ _ (.int p) (.int c) (dEq_int p c) fun v H' F k rp nd fr => ?_
  cases rp
  exact ⟨_, rfl, h H' k⟩
abbrev bl_base (ca : String → Addr) : List Cl := [⟨.ref (ca "BadTable"), none, fun _ _ _ => tRet (tC (.bl false))⟩, ⟨.ref (ca "NotPointed"), none, fun _ _ _ => tRet (tC (.bl false))⟩, ⟨.ref (ca "GridError"), none, fun _ _ _ => tRet (tC (.bl true))⟩]
theorem w_base {K : PySem.W.Frag} {ca : String → Addr} (XS : Kxs K ca exNames) {D : Ends} {σ : L2.St} {H : Hp} {n : String} (hn : n ∈ exNames) (h1 : (n == "BadTable") = false) (h2 : (n == "NotPointed") = false) (h : D.rt (.bl true) H) : wCl K (fun _ _ _ _ => False) D (bl_base ca) (.ref (ca n)) none σ H := by
  refine ⟨false, (XS.exm (n := n) (m := "BadTable") hn (by decide)).trans (by rw [h1]; rfl), (fun z => nomatch z), fun _ => ⟨false, (XS.exm (n := n) (m := "NotPointed") hn (by decide)).trans (by rw [h2]; rfl), (fun z => nomatch z), fun _ => ⟨true, (XS.exm (n := n) (m := "GridError") hn (by decide)).trans (by simp), (fun _ a na => ?_), fun z => nomatch z⟩⟩⟩
  exact h
theorem ps_raise0 {X : Cx} {C : Addr} {x : Str} {W : WX} {p pos pos2 : Pos} (hc : X.calm = true) (q : PySem.W.excIn X.K C [.type "Exception", .type "BaseException", .type "object"] "Exception.__new__" = true) (gC : X.mg x = some (.ref C)) (kC : PySem.W.keepIn X.K (.ref C) = true) (r : Raises X (.ref C)) (tk : Takes X W) (hg : Gl X x) (hdb : (x == ("__debug__" : Str)) = false := by decide) : PS X (.Raise (some (.Call (.Name x p) [] [] pos)) none pos2) (tR0 C W) :=
  ps_raise hc tk (pmk_0 PySem.F.excBase_Exception q gC kC r hg hdb)
theorem ok__law_under_the_base {P : Program} {w : World} {K : PySem.W.Frag} {mg : Str → Option Value} {base : Heap} {ca : String → Addr} {f : Addr} {fd : FuncData} (F : Fun K "_law_under_the_base" "_law_under_the_base" s__law_under_the_base f fd)
    (G_BadTable : mg "BadTable" = some (.ref (ca "BadTable"))) (G_NotPointed : mg "NotPointed" = some (.ref (ca "NotPointed"))) (G_GridError : mg "GridError" = some (.ref (ca "GridError")))
    (M : ∀ n ∈ ["BadSides", "NotBounded", "NothingToRedo", "BadTree"], mg (Str.ofString n) = some (.ref (ca n)) ∧ PySem.W.excIn K (ca n) [.type "Exception", .type "BaseException", .type "object"] "Exception.__new__" = true ∧ PySem.W.keepIn K (.ref (ca n)) = true)
    (XS : Kxs K ca exNames) : FnOk P w K mg base CX0 1 f fd ["place"] (spV K ca [false] true m__law_under_the_base) := by
  refine F.ok (k := 0) sc__law_under_the_base (fun vs H Q E h => spV_len _ _ _ _ h) (fun cdv A outer s H vs Q E hr h => ⟨_, pss_one (ps_tryC (tb := tb_base K ca) (Wout := fun _ _ _ _ => False) (l := bl_base ca) rfl rfl sc__law_under_the_base.nd takesF
    (fun W pn xe tk _ => ?bd)
    (.cons ⟨by rfl, by rfl, .inl G_BadTable⟩ trivial (fun a oe cls d pn hz hd => pss_one (ps_ret pe_bl)) (.cons ⟨by rfl, by rfl, .inl G_NotPointed⟩ trivial (fun a oe cls d pn hz hd => pss_one (ps_ret pe_bl)) (.cons ⟨by rfl, by rfl, .inl G_GridError⟩ trivial (fun a oe cls d pn hz hd => pss_one (ps_ret pe_bl)) .nil)))), ?rd⟩)
  case bd =>
    have rs : ∀ n ∈ exNames, ∀ X : Cx, X.K = K → Raises X (.ref (ca n)) := fun n hn X e => raises_own (by rw [e]; exact (XS.all n hn).exc) (by rw [e]; exact (XS.all n hn).typ)
    exact pss_cons (ps_if (pt_cmpR (op_eqD hr.units) (pv 0) pe_int (nomark _)) (pss_one (ps_raise0 rfl (M "BadSides" (by decide)).2.1 (M "BadSides" (by decide)).1 (M "BadSides" (by decide)).2.2 (rs _ (by decide) _ rfl) tk (by rfl))) pss_nil)
      (pss_cons (ps_if (pt_cmpR (op_eqD hr.units) (pv 0) pe_int (nomark _)) (pss_one (ps_raise0 rfl (M "NotBounded" (by decide)).2.1 (M "NotBounded" (by decide)).1 (M "NotBounded" (by decide)).2.2 (rs _ (by decide) _ rfl) tk (by rfl))) pss_nil)
      (pss_cons (ps_if (pt_cmpR (op_eqD hr.units) (pv 0) pe_int (nomark _)) (pss_one (ps_raise0 rfl (M "NothingToRedo" (by decide)).2.1 (M "NothingToRedo" (by decide)).1 (M "NothingToRedo" (by decide)).2.2 (rs _ (by decide) _ rfl) tk (by rfl))) pss_nil)
      (pss_one (ps_raise0 rfl (M "BadTree" (by decide)).2.1 (M "BadTree" (by decide)).1 (M "BadTree" (by decide)).2.2 (rs _ (by decide) _ rfl) tk (by rfl)))))
  case rd =>
    obtain ⟨ds, Fv, Ms, r, ios, hA, hN, hL, hf, hq⟩ := h
    unfold m__law_under_the_base at hf
    split at hf
    rotate_left
    · cases hf
    rename_i n
    cases hf
    cases hA with
    | val r0 hA =>
      cases hA
      cases r0
      have fin : ∀ H', (∀ b o, H b = some o → H' b = some o) → Q (.bl true) H' := fun H' k => hq (.bl true) H' [] [] (post_new k (.bl true) List.nodup_nil (fun b hb => nomatch hb) (.val .nil))
      refine eq_test (p := n) rfl fun H1 k1 => ?_
      by_cases c0 : n = 0
      · rw [decide_eq_true c0, if_pos rfl]
        exact w_base XS (by decide) (by decide) (by decide) (fin _ k1)
      rw [decide_eq_false c0, if_neg Bool.false_ne_true]
      refine eq_test (p := n) rfl fun H2 k2 => ?_
      by_cases c1 : n = 1
      · rw [decide_eq_true c1, if_pos rfl]
        exact w_base XS (by decide) (by decide) (by decide) (fin _ fun b o e => k2 b o (k1 b o e))
      rw [decide_eq_false c1, if_neg Bool.false_ne_true]
      refine eq_test (p := n) rfl fun H3 k3 => ?_
      by_cases c2 : n = 2
      · rw [decide_eq_true c2, if_pos rfl]
        exact w_base XS (by decide) (by decide) (by decide) (fin _ fun b o e => k3 b o (k2 b o (k1 b o e)))
      rw [decide_eq_false c2, if_neg Bool.false_ne_true]
      exact w_base XS (by decide) (by decide) (by decide) (fin _ fun b o e => k3 b o (k2 b o (k1 b o e)))
end Gk00
namespace Gk00
open PySem PySem.Spec L2 VL
/-! ### law -/
abbrev s_law : Stmt := topS 36
abbrev N_law : List Str := ["script", "pool", "errors", "base", "told", "one", "other", "made", "later", "k", "n"]
theorem sc_law : FnScope N_law ["script"] (defScope s_law) := ⟨rfl, rfl, rfl, by decide +kernel, rfl, by decide +kernel, by decide +kernel⟩
abbrev ts_law (K : PySem.W.Frag) (ca : String → Addr) (E : XK) : TS :=
  (tSeq (tAsg (tCall (spV K ca [false] true m__law_stream) [] E (tCons (tVar 0) tNil)) (gName 1))
  (tSeq (tPar 5 6 (tCons (tCall (spV K ca [true] true m__law_drawn) [] E (tCons (tVar 1) tNil)) (tCons (tCall (spV K ca [true] true m__law_drawn) [] E (tCons (tVar 1) tNil)) tNil)))
  (tSeq (tPar 7 8 (tCons (tCall (spV K ca [false] false m__law_made) [] E (tCons (tVar 5) tNil)) (tCons (tCall (spV K ca [false] false m__law_made) [] E (tCons (tVar 6) tNil)) tNil)))
  (tSeq (tFor (iList K (tLst (tCons (tVar 7) (tCons (tVar 8) tNil)))) (gName 2)
  (tFor (iRng1 (tCons (tCB (zLen K) (tCons (tVar 2) tNil)) tNil)) (gName 9)
  (tSeq (tIfS (tOr (tNot (tTru K (tCB (rIsX K) (tCons (tOp (zIxA K) (tVar 2) (tVar 9)) (tCons (tC (.ref (ca "GridError"))) tNil))))) (tOr (tNot (tTru K (tCB (rIsX K) (tCons (tOp (zIxA K) (tVar 2) (tVar 9)) (tCons (tC (.ty "Exception")) tNil))))) (tTru K (tCall (spV K ca [false] true m__law_narrower) [] E (tCons (tOp (zIxA K) (tVar 2) (tVar 9)) tNil))))) (tRet (tC (.bl false))) tNext)
  (tIfS (tTest (tOp (rNeD K) (tCall (spV K ca [false] true m__law_kinds) [] E (tCons (tOp (zIxA K) (tVar 2) (tVar 9)) tNil)) (tLc (iRng1 (tCons (tCB (zLen K) (tCons (tVar 2) tNil)) tNil)) (gName 10) tYes (tOp (rEqD K) (tVar 10) (tVar 9)) [10]))) (tRet (tC (.bl false))) tNext))))
  (tSeq (tAsg (tMk0 (ca "GridError")) (gName 3))
  (tSeq (tIfS (tOr (tNot (tTru K (tCB (rIsX K) (tCons (tVar 3) (tCons (tC (.ty "Exception")) tNil))))) (tOr (tTru K (tCB (rAny K) (tCons (tCall (spV K ca [false] true m__law_kinds) [] E (tCons (tVar 3) tNil)) tNil))) (tTru K (tCall (spV K ca [false] true m__law_narrower) [] E (tCons (tVar 3) tNil))))) (tRet (tC (.bl false))) tNext)
  (tSeq (tIfS (tOr (tNot (tTru K (tCall (spV K ca [false, false] true m__law_alike) [] E (tCons (tLst (tCons (tCall (spV K ca [false] true m__law_number_raised) [] E (tCons (tOp (zIxA K) (tVar 6) (tC (.int 0))) tNil)) tNil)) (tCons (tLst (tCons (tOp (zIxA K) (tVar 6) (tC (.int 0))) tNil)) tNil))))) (tNot (tTru K (tCall (spV K ca [false] true m__law_under_the_base) [] E (tCons (tCall (spV K ca [true, false] true m__law_pick) [] E (tCons (tVar 1) (tCons (tC (.int 4)) tNil))) tNil))))) (tRet (tC (.bl false))) tNext)
  (tSeq (tAsg (tCall (spV K ca [false, false] true m__law_text_raised) [] E (tCons (tOp (zIxA K) (tVar 5) (tC (.int 3))) (tCons (tOp (zIxA K) (tVar 5) (tC (.int 4))) tNil))) (gName 4))
  (tSeq (tIfS (tOr (tTest (tOp zIsNo (tVar 4) (tC .non))) (tNot (tTru K (tCall (spV K ca [false, false] true m__law_alike) [] E (tCons (tVar 4) (tCons (tLst (tCons (tOp (zIxA K) (tVar 5) (tC (.int 3))) (tCons (tOp (zIxA K) (tVar 5) (tC (.int 4))) tNil))) tNil)))))) (tRet (tC (.bl false))) tNext)
  (tRet (tAndV (tCall (spV K ca [false, false] true m__law_alike) [] E (tCons (tCall (spV K ca [false] true m__law_fields) [] E (tCons (tVar 7) tNil)) (tCons (tVar 5) tNil))) (tCall (spV K ca [false, false] true m__law_alike) [] E (tCons (tCall (spV K ca [false] true m__law_fields) [] E (tCons (tVar 8) tNil)) (tCons (tVar 6) tNil))))))))))))))
def ce1_law : Ev :=
  (eOp2 dEq (eScal (eVar 10)) (eScal (eVar 9)))
def lb2_law : Sv :=
  (sSeq (sIf (tvOr (tvNot (tvTru (eOp1 (dIsX exNames "GridError") (eOp2 dIx (eVar 2) (eScal (eVar 9)))))) (tvOr (tvNot (tvTru (eOp1 (dIsB exNames "Exception") (eOp2 dIx (eVar 2) (eScal (eVar 9)))))) (tvTru (eCall m__law_narrower [none] (aCons (eOp2 dIx (eVar 2) (eScal (eVar 9))) aNil))))) (sRet (eC (.bl false))) sNil)
  (sIf (tvB (eOp2 dNe (eCall m__law_kinds [none] (aCons (eOp2 dIx (eVar 2) (eScal (eVar 9))) aNil)) (eLc (ivR1 (aCons (eOp1 dLen (eVar 2)) aNil)) (.nm 10) tvYes ce1_law [10]))) (sRet (eC (.bl false))) sNil))
def lb3_law : Sv :=
  (sFor (ivR1 (aCons (eOp1 dLen (eVar 2)) aNil)) (.nm 9) lb2_law)
def sv_law : Sv :=
  (sSeq (sSet 1 (eCall m__law_stream [none] (aCons (eVar 0) aNil)))
  (sSeq (sPar 5 6 (aCons (eCall m__law_drawn [some 1] (aIo 1 aNil)) (aCons (eCall m__law_drawn [some 1] (aIo 1 aNil)) aNil)))
  (sSeq (sPar 7 8 (aCons (eCall m__law_made [none] (aCons (eVar 5) aNil)) (aCons (eCall m__law_made [none] (aCons (eVar 6) aNil)) aNil)))
  (sSeq (sFor (ivL (eLst (aCons (eVar 7) (aCons (eVar 8) aNil)))) (.nm 2) lb3_law)
  (sSeq (sSet 3 (eC (.exc "GridError" [])))
  (sSeq (sIf (tvOr (tvNot (tvTru (eOp1 (dIsB exNames "Exception") (eVar 3)))) (tvOr (tvTru (eOp1 dAny (eCall m__law_kinds [none] (aCons (eVar 3) aNil)))) (tvTru (eCall m__law_narrower [none] (aCons (eVar 3) aNil))))) (sRet (eC (.bl false))) sNil)
  (sSeq (sIf (tvOr (tvNot (tvTru (eCall m__law_alike [none, none] (aCons (eLst (aCons (eCall m__law_number_raised [none] (aCons (eScal (eOp2 dIx (eVar 6) (eC (.int 0)))) aNil)) aNil)) (aCons (eLst (aCons (eScal (eOp2 dIx (eVar 6) (eC (.int 0)))) aNil)) aNil))))) (tvNot (tvTru (eCall m__law_under_the_base [none] (aCons (eCall m__law_pick [some 1, none] (aIo 1 (aCons (eC (.int 4)) aNil))) aNil))))) (sRet (eC (.bl false))) sNil)
  (sSeq (sSet 4 (eCall m__law_text_raised [none, none] (aCons (eScal (eOp2 dIx (eVar 5) (eC (.int 3)))) (aCons (eScal (eOp2 dIx (eVar 5) (eC (.int 4)))) aNil))))
  (sSeq (sIf (tvOr (tvB (eIsN (eVar 4))) (tvNot (tvTru (eCall m__law_alike [none, none] (aCons (eVar 4) (aCons (eLst (aCons (eScal (eOp2 dIx (eVar 5) (eC (.int 3)))) (aCons (eScal (eOp2 dIx (eVar 5) (eC (.int 4)))) aNil))) aNil)))))) (sRet (eC (.bl false))) sNil)
  (sRet (eAnd (eCall m__law_alike [none, none] (aCons (eCall m__law_fields [none] (aCons (eVar 7) aNil)) (aCons (eVar 5) aNil))) (eCall m__law_alike [none, none] (aCons (eCall m__law_fields [none] (aCons (eVar 8) aNil)) (aCons (eVar 6) aNil))))))))))))))
def m_law : Fm := fmOf [false] 11 sv_law
theorem rs_law (P : Cz) (XS : Kxs P.K P.ca exNames) (XF : Kfs P.K P.ca exPairs) : RS P ⟨[], true⟩ [] [0, 0, 0, 0, 0, 0, 0, 0, 0, 0, 0] (ts_law P.K P.ca P.E) sv_law [] [0, 2, 0, 2, 2, 0, 0, 0, 0, 0, 0] :=
  (rs_seq (rs_set (i := 1) (flx := [0, 2, 0, 0, 0, 0, 0, 0, 0, 0, 0]) (re_call (kb := [false]) (ra_cons (re_var 0) ra_nil)))
  (rs_seq (rs_par (i := 5) (j := 6) (flx := [0, 2, 0, 0, 0, 2, 2, 0, 0, 0, 0]) (ra_cons (re_call (kb := [true]) (ra_io (i := 1) ra_nil)) (ra_cons (re_call (kb := [true]) (ra_io (i := 1) ra_nil)) ra_nil)))
  (rs_seq (rs_par (i := 7) (j := 8) (flx := [0, 2, 0, 0, 0, 0, 0, 0, 0, 0, 0]) (ra_cons (re_call (kb := [false]) (ra_cons (re_var 5) ra_nil)) (ra_cons (re_call (kb := [false]) (ra_cons (re_var 6) ra_nil)) ra_nil)))
  (rs_seq (rs_for (t := (.nm 2)) (flI := [0, 2, 0, 0, 0, 0, 0, 0, 0, 0, 0]) (ri_list (re_lst (ra_cons (re_var 7) (ra_cons (re_var 8) ra_nil))))
  (rs_for (t := (.nm 9)) (flI := [0, 2, 0, 0, 0, 0, 0, 0, 0, 0, 0]) (ri_range1 (ra_cons (re_b1 os_len (re_var 2)) ra_nil))
  (rs_seq (rs_if (rt_or (rt_not (rt_tru (re_isX XS (m := "GridError") (by decide) (re_ix oc_ix (re_var 2) (re_scal (re_var 9)))))) (rt_or (rt_not (rt_tru (re_isXB XS (re_ix oc_ix (re_var 2) (re_scal (re_var 9)))))) (rt_tru (re_call (kb := [false]) (ra_cons (re_ix oc_ix (re_var 2) (re_scal (re_var 9))) ra_nil))))) (rs_ret (re_bl false)) rs_nil)
  (rs_if (rt_b (re_op2 os_ne (re_call (kb := [false]) (ra_cons (re_ix oc_ix (re_var 2) (re_scal (re_var 9))) ra_nil)) (re_lc (t := (.nm 10)) (vs := [10]) (lvb := [7, 8]) (ri_range1 (ra_cons (re_b1 os_len (re_var 2)) ra_nil)) rt_yes (re_op2 os_eq (re_scal (re_var 10)) (re_scal (re_var 9)))))) (rs_ret (re_bl false)) rs_nil))))
  (rs_seq (rs_set (i := 3) (flx := [0, 2, 0, 2, 0, 0, 0, 0, 0, 0, 0]) (re_mk0 XS (n := "GridError") (by decide)))
  (rs_seq (rs_if (rt_or (rt_not (rt_tru (re_isXB XS (re_var 3)))) (rt_or (rt_tru (re_b1 os_any (re_call (kb := [false]) (ra_cons (re_var 3) ra_nil)))) (rt_tru (re_call (kb := [false]) (ra_cons (re_var 3) ra_nil))))) (rs_ret (re_bl false)) rs_nil)
  (rs_seq (rs_if (rt_or (rt_not (rt_tru (re_call (kb := [false, false]) (ra_cons (re_lst (ra_cons (re_call (kb := [false]) (ra_cons (re_scal (re_ix oc_ix (re_var 6) (re_int 0))) ra_nil)) ra_nil)) (ra_cons (re_lst (ra_cons (re_scal (re_ix oc_ix (re_var 6) (re_int 0))) ra_nil)) ra_nil))))) (rt_not (rt_tru (re_call (kb := [false]) (ra_cons (re_call (kb := [true, false]) (ra_io (i := 1) (ra_cons (re_int 4) ra_nil))) ra_nil))))) (rs_ret (re_bl false)) rs_nil)
  (rs_seq (rs_set (i := 4) (flx := [0, 2, 0, 2, 2, 0, 0, 0, 0, 0, 0]) (re_call (kb := [false, false]) (ra_cons (re_scal (re_ix oc_ix (re_var 5) (re_int 3))) (ra_cons (re_scal (re_ix oc_ix (re_var 5) (re_int 4))) ra_nil))))
  (rs_seq (rs_if (rt_or (rt_b (re_isN (re_var 4))) (rt_not (rt_tru (re_call (kb := [false, false]) (ra_cons (re_var 4) (ra_cons (re_lst (ra_cons (re_scal (re_ix oc_ix (re_var 5) (re_int 3))) (ra_cons (re_scal (re_ix oc_ix (re_var 5) (re_int 4))) ra_nil))) ra_nil)))))) (rs_ret (re_bl false)) rs_nil)
  (rs_ret (re_and (re_call (kb := [false, false]) (ra_cons (re_call (kb := [false]) (ra_cons (re_var 7) ra_nil)) (ra_cons (re_var 5) ra_nil))) (re_call (kb := [false, false]) (ra_cons (re_call (kb := [false]) (ra_cons (re_var 8) ra_nil)) (ra_cons (re_var 6) ra_nil))))))))))))))
theorem ok_law {P : Program} {w : World} {K : PySem.W.Frag} {mg : Str → Option Value} {base : Heap} {ca : String → Addr} {f : Addr} {fd : FuncData} (F : Fun K "law" "law" s_law f fd) (n_range : mg "range" = none) (n_len : mg "len" = none) (n_isinstance : mg "isinstance" = none) (n_Exception : mg "Exception" = none) (n_any : mg "any" = none) (c__law_stream : Cal P w K mg base CX0 "_law_stream" 2 ["script"] (spV K ca [false] true m__law_stream)) (c__law_drawn : Cal P w K mg base CX0 "_law_drawn" 3 ["pool"] (spV K ca [true] true m__law_drawn)) (c__law_made : Cal P w K mg base CX0 "_law_made" 1 ["fields"] (spV K ca [false] false m__law_made)) (c__law_narrower : Cal P w K mg base CX0 "_law_narrower" 1 ["error"] (spV K ca [false] true m__law_narrower)) (c__law_kinds : Cal P w K mg base CX0 "_law_kinds" 1 ["error"] (spV K ca [false] true m__law_kinds)) (c__law_number_raised : Cal P w K mg base CX0 "_law_number_raised" 1 ["number"] (spV K ca [false] true m__law_number_raised)) (c__law_alike : Cal P w K mg base CX0 "_law_alike" 1 ["told", "due"] (spV K ca [false, false] true m__law_alike)) (c__law_pick : Cal P w K mg base CX0 "_law_pick" 1 ["pool", "many"] (spV K ca [true, false] true m__law_pick)) (c__law_under_the_base : Cal P w K mg base CX0 "_law_under_the_base" 1 ["place"] (spV K ca [false] true m__law_under_the_base)) (c__law_text_raised : Cal P w K mg base CX0 "_law_text_raised" 1 ["line", "column"] (spV K ca [false, false] true m__law_text_raised)) (c__law_fields : Cal P w K mg base CX0 "_law_fields" 1 ["errors"] (spV K ca [false] true m__law_fields)) (G_GridError : mg "GridError" = some (.ref (ca "GridError"))) (Q_GridError : PySem.W.excIn K (ca "GridError") [.type "Exception", .type "BaseException", .type "object"] "Exception.__new__" = true) (K_GridError : PySem.W.keepIn K (.ref (ca "GridError")) = true) (XS : Kxs K ca exNames) (XF : Kfs K ca exPairs) : FnOk P w K mg base CX0 4 f fd ["script"] (spV K ca [false] true m_law) := by
  refine F.ok (k := 3) sc_law (fun vs H Q E h => spV_len _ _ _ _ h) (fun cdv A outer s H vs Q E hr h => ⟨ts_law K ca E, ?_, body_ok (n := 11) (ks := [false]) (fr := true) rfl (by decide) (fun P e1 e2 e3 => by subst e1 e2 e3; exact rs_law P XS XF) rfl h⟩)
  exact (pss_cons (ps_set (i := 1) sc_law.nd rfl (by first | exact Or.inl rfl | exact Or.inr rfl) (pe_cal c__law_stream (hr.mono (by decide)) (by rfl) (pa_cons (pv 0) pa_nil)))
  (pss_cons (ps_par (i := 5) (j := 6) rfl sc_law.nd rfl rfl (by decide) rfl rfl (pa_cons (pe_cal c__law_drawn (hr.mono (by decide)) (by rfl) (pa_cons (pv 1) pa_nil)) (pa_cons (pe_cal c__law_drawn (hr.mono (by decide)) (by rfl) (pa_cons (pv 1) pa_nil)) pa_nil)) rfl)
  (pss_cons (ps_par (i := 7) (j := 8) rfl sc_law.nd rfl rfl (by decide) rfl rfl (pa_cons (pe_cal c__law_made (hr.mono (by decide)) (by rfl) (pa_cons (pv 5) pa_nil)) (pa_cons (pe_cal c__law_made (hr.mono (by decide)) (by rfl) (pa_cons (pv 6) pa_nil)) pa_nil)) rfl)
  (pss_cons (ps_for PassesOwn.never rfl (pi_list (pe_lst (pa_cons (pv 7) (pa_cons (pv 8) pa_nil)))) (pg_name (i := 2) sc_law.nd rfl (by first | exact Or.inl rfl | exact Or.inr rfl))
  (pss_one (ps_for PassesOwn.never rfl (pi_range1 (by rfl) n_range (pa_cons (pe_callB call_len_seq (by rfl) n_len bt_len (pa_cons (pv 2) pa_nil)) pa_nil)) (pg_name (i := 9) sc_law.nd rfl (by first | exact Or.inl rfl | exact Or.inr rfl))
  (pss_cons (ps_if (PW.pt (pw_or (pt_not (pt_truth (pe_callB call_isX (by rfl) n_isinstance bt_isinstance (pa_cons (pe_ix (ix_list.or ix_tup) (pv 2) (pv 9) (fun _ _ => rfl)) (pa_cons (pe_glob (v := .ref (ca "GridError")) (by rfl) G_GridError rfl) pa_nil))) (by intro _; rfl))) (pw_or (pt_not (pt_truth (pe_callB call_isX (by rfl) n_isinstance bt_isinstance (pa_cons (pe_ix (ix_list.or ix_tup) (pv 2) (pv 9) (fun _ _ => rfl)) (pa_cons (pe_bltn (v := .ty "Exception") (by rfl) n_Exception bt_Exception rfl) pa_nil))) (by intro _; rfl))) (pw_or1 (pt_truth (pe_cal c__law_narrower (hr.mono (by decide)) (by rfl) (pa_cons (pe_ix (ix_list.or ix_tup) (pv 2) (pv 9) (fun _ _ => rfl)) pa_nil)) (by intro _; rfl)))))) (pss_one (ps_ret pe_bl)) pss_nil)
  (pss_one (ps_if (pt_cmpR (op_neD hr.units) (pe_cal c__law_kinds (hr.mono (by decide)) (by rfl) (pa_cons (pe_ix (ix_list.or ix_tup) (pv 2) (pv 9) (fun _ _ => rfl)) pa_nil)) (pe_lc (own := [("n", 10)]) (g := (gName 10)) (tt := tYes) (te := (tOp (rEqD K) (tVar 10) (tVar 9))) rfl sc_law.nd (pi_range1 (by rfl) n_range (pa_cons (pe_callB call_len_seq (by rfl) n_len bt_len (pa_cons (pv 2) pa_nil)) pa_nil)) (blkOk_by (N := N_law) (sc := (defScope s_law)) (by decide +kernel)) (fun _ _ _ _ _ => (pg_name (i := 10) sc_law.nd rfl (by first | exact Or.inl rfl | exact Or.inr rfl))) (fun _ _ _ _ _ => pts_nil) (fun _ _ _ _ _ => (pe_cmpR (op_eqD hr.units) (pv 10) (pv 9) (nomark _)))) (nomark _)) (pss_one (ps_ret pe_bl)) pss_nil))))))
  (pss_cons (ps_set (i := 3) sc_law.nd rfl (by first | exact Or.inl rfl | exact Or.inr rfl) (pe_mk0 PySem.F.excBase_Exception Q_GridError G_GridError K_GridError (by rfl)))
  (pss_cons (ps_if (PW.pt (pw_or (pt_not (pt_truth (pe_callB call_isX (by rfl) n_isinstance bt_isinstance (pa_cons (pv 3) (pa_cons (pe_bltn (v := .ty "Exception") (by rfl) n_Exception bt_Exception rfl) pa_nil))) (by intro _; rfl))) (pw_or (pt_truth (pe_callB (cr_any rfl) (by rfl) n_any bt_any (pa_cons (pe_cal c__law_kinds (hr.mono (by decide)) (by rfl) (pa_cons (pv 3) pa_nil)) pa_nil)) (by intro _; rfl)) (pw_or1 (pt_truth (pe_cal c__law_narrower (hr.mono (by decide)) (by rfl) (pa_cons (pv 3) pa_nil)) (by intro _; rfl)))))) (pss_one (ps_ret pe_bl)) pss_nil)
  (pss_cons (ps_if (PW.pt (pw_or (pt_not (pt_truth (pe_cal c__law_alike (hr.mono (by decide)) (by rfl) (pa_cons (pe_lst (pa_cons (pe_cal c__law_number_raised (hr.mono (by decide)) (by rfl) (pa_cons (pe_ix (ix_list.or ix_tup) (pv 6) pe_int (fun _ _ => rfl)) pa_nil)) pa_nil)) (pa_cons (pe_lst (pa_cons (pe_ix (ix_list.or ix_tup) (pv 6) pe_int (fun _ _ => rfl)) pa_nil)) pa_nil))) (by intro _; rfl))) (pw_or1 (pt_not (pt_truth (pe_cal c__law_under_the_base (hr.mono (by decide)) (by rfl) (pa_cons (pe_cal c__law_pick (hr.mono (by decide)) (by rfl) (pa_cons (pv 1) (pa_cons pe_int pa_nil))) pa_nil)) (by intro _; rfl)))))) (pss_one (ps_ret pe_bl)) pss_nil)
  (pss_cons (ps_set (i := 4) sc_law.nd rfl (by first | exact Or.inl rfl | exact Or.inr rfl) (pe_cal c__law_text_raised (hr.mono (by decide)) (by rfl) (pa_cons (pe_ix (ix_list.or ix_tup) (pv 5) pe_int (fun _ _ => rfl)) (pa_cons (pe_ix (ix_list.or ix_tup) (pv 5) pe_int (fun _ _ => rfl)) pa_nil))))
  (pss_cons (ps_if (PW.pt (pw_or (pt_cmpR op_isN (pv 4) pe_non (nomark _)) (pw_or1 (pt_not (pt_truth (pe_cal c__law_alike (hr.mono (by decide)) (by rfl) (pa_cons (pv 4) (pa_cons (pe_lst (pa_cons (pe_ix (ix_list.or ix_tup) (pv 5) pe_int (fun _ _ => rfl)) (pa_cons (pe_ix (ix_list.or ix_tup) (pv 5) pe_int (fun _ _ => rfl)) pa_nil))) pa_nil))) (by intro _; rfl)))))) (pss_one (ps_ret pe_bl)) pss_nil)
  (pss_one (ps_ret (pe_and (pe_cal c__law_alike (hr.mono (by decide)) (by rfl) (pa_cons (pe_cal c__law_fields (hr.mono (by decide)) (by rfl) (pa_cons (pv 7) pa_nil)) (pa_cons (pv 5) pa_nil))) (pe_one (pe_cal c__law_alike (hr.mono (by decide)) (by rfl) (pa_cons (pe_cal c__law_fields (hr.mono (by decide)) (by rfl) (pa_cons (pv 8) pa_nil)) (pa_cons (pv 6) pa_nil))))))))))))))))
end Gk00
namespace Gk00
open PySem PySem.Spec L2 VL
structure PoolOk (p : List Int) : Prop where
  l2 : 2 ≤ p.length
  ix : 1 ≤ p.headD 0 ∧ p.headD 0 < p.length
theorem fmod_in (a : Int) {m : Int} (h : 0 < m) : 0 ≤ a.fmod m ∧ a.fmod m < m := ⟨Int.fmod_nonneg_of_pos a h, Int.fmod_lt_of_pos a h⟩
theorem p_pick {p : List Int} (h : PoolOk p) {many : Int} (hm : 0 < many) : ∃ (r : Int) (p' : List Int), m__law_pick [zl p, .int many] = some (.ok (.int r), [zl p']) ∧ (0 ≤ r ∧ r < many) ∧ PoolOk p' ∧ p'.length = p.length := by
  obtain ⟨h1, h2, h3⟩ := h
  cases p with
  | nil => simp at h1
  | cons a l =>
    simp at h1 h2 h3
    have e0 : ∀ b, dIx (zl (b :: l)) (.int 0) = some (.int b) := fun b => dIx_zl (by omega) rfl
    have e1 : ∀ b, dIx (zl (b :: l)) (.int a) = some (.int (l[(a - 1).toNat]'(by omega))) := fun b => dIx_zl (by omega) (by
      rw [show a.toNat = (a - 1).toNat + 1 by omega, List.getElem?_cons_succ, List.getElem?_eq_getElem])
    have hm' : many ≠ 0 := by omega
    have l0 : (0 : Int) < (l.length : Int) + 1 := by omega
    by_cases hc : a + 1 = (l.length : Int) + 1
    · refine ⟨(l[(a - 1).toNat]'(by omega)).fmod many, 1 :: l, fm_rt (e := [some (zl (1 :: l)), some (.int many), some (.int a)]) ?_ rfl, fmod_in _ hm, ⟨by simpa using h1, by simp; omega⟩, by simp⟩
      simp [sv__law_pick, env0, e0, e1, l0, hc, hm', D.scal]
    · refine ⟨(l[(a - 1).toNat]'(by omega)).fmod many, (a + 1) :: l, fm_rt (e := [some (zl ((a + 1) :: l)), some (.int many), some (.int a)]) ?_ rfl, fmod_in _ hm, ⟨by simpa using h1, by simp; omega⟩, by simp⟩
      have hc' : ¬ a = l.length := by omega
      simp [sv__law_pick, env0, e0, e1, l0, hc', hm', D.scal]
/-! ### the pool -/
theorem div60 (r : Int) : cDiv r 60 = true := (by decide : cDiv 0 60 = true)
theorem div97 (r : Int) : cDiv r 97 = true := (by decide : cDiv 0 97 = true)
theorem pw18 : cPow 10 18 = true := by decide
theorem pool_in (sc c : D) (x4 : Option D) (p : List Int) (r : Int) (hp : p.length ≤ 100000) : ∃ e', forL (.nm 4) lb1__law_pool (rangeD 0 60) [some sc, some (zl p), some c, none, x4, some (.int r)] = some (.ok .nx, e') ∧ ∃ (p' : List Int) (x : Option D) (r' : Int), e' = [some sc, some (zl p'), some c, none, x, some (.int r')] ∧ p'.length ≤ p.length + 60 := by
  refine forL_range (P := fun k e => ∃ (p' : List Int) (x : Option D) (r' : Int), e = [some sc, some (zl p'), some c, none, x, some (.int r')] ∧ p'.length ≤ p.length + k) (fun e h => h) (fun k e hk h => ?_) _ ⟨p, x4, r, rfl, by omega⟩
  obtain ⟨p', x, r', rfl, hl⟩ := h
  have hp' : p'.length < 16777216 := by omega
  refine ⟨_, [some sc, some (zl (p' ++ [r'.fmod 60])), some c, none, some (.int (0 + k)), some (.int (r'.fdiv 60))], rfl, ?_⟩
  by_cases h0 : r'.fdiv 60 = 0
  · refine .inr ⟨?_, _, _, _, rfl, by simp; omega⟩
    simp [lb1__law_pool, dApp_zl hp', div60, h0]
  · refine .inl ⟨?_, _, _, _, rfl, by simp; omega⟩
    simp [lb1__law_pool, dApp_zl hp', div60, h0]
theorem mul31 {s : Int} (h : 0 ≤ s ∧ s < 2147483647) (k : Int) (hk : k.natAbs < 2 ^ 64) : cMul s k = true := cMul_of (n := 31) (m := 64) (by omega) hk (by decide) (by decide) (by decide)
theorem p_pool (ns : List Int) (hn : ns.length ≤ 63) : ∃ p : List Int, m__law_pool [.scr ns] = some (.ok (zl p), []) ∧ 300 ≤ p.length ∧ p.length ≤ 10000 := by
  have L1 : ∃ e', forL (.nm 2) lb2__law_pool (ns.map D.int) [some (.scr ns), some (zl []), none, none, none, none] = some (.ok .nx, e') ∧ ∃ (p : List Int) (x2 x4 x5 : Option D), e' = [some (.scr ns), some (zl p), x2, none, x4, x5] ∧ p.length ≤ 60 * 63 := by
    refine forL_map (P := fun xs e => ∃ (p : List Int) (x2 x4 x5 : Option D), e = [some (.scr ns), some (zl p), x2, none, x4, x5] ∧ p.length + 60 * xs.length ≤ 60 * 63) (fun e h => ?_) (fun x xs e h => ?_) ns _ ⟨[], none, none, none, rfl, by simp; omega⟩
    · obtain ⟨p, x2, x4, x5, rfl, h⟩ := h
      exact ⟨p, x2, x4, x5, rfl, by simpa using h⟩
    · obtain ⟨p, x2, x4, x5, rfl, h⟩ := h
      simp only [List.length_cons] at h
      by_cases hx : (1000000000000000000 : Int) ≤ x
      · obtain ⟨e', h1, p', y, r', rfl, h2⟩ := pool_in (.scr ns) (.int x) x4 p x (by omega)
        refine ⟨_, _, rfl, .inl ⟨?_, p', some (.int x), y, some (.int r'), rfl, by omega⟩⟩
        have hx' : decide ((1000000000000000000 : Int) ≤ x) = true := by simpa using hx
        simp [lb2__law_pool, pw18, rng1, hx', h1]
      · refine ⟨_, [some (.scr ns), some (zl (p ++ [x.fmod 60, (x.fdiv 60).fmod 60])), some (.int x), none, x4, some (.int x)], rfl, .inl ⟨?_, _, _, _, _, rfl, by simp; omega⟩⟩
        have hx' : decide ((1000000000000000000 : Int) ≤ x) = false := by simpa using hx
        have hc : p.length + [x.fmod 60, (x.fdiv 60).fmod 60].length ≤ 16777216 := by simp; omega
        simp [lb2__law_pool, pw18, hx', div60, zl_2, dCat_zl hc]
  obtain ⟨e1, h1, p, x2, x4, x5, rfl, hp⟩ := L1
  have L2 : ∃ e', forL (.nm 2) lb3__law_pool (ns.map D.int) [some (.scr ns), some (zl p), x2, some (.int 17), x4, x5] = some (.ok .nx, e') ∧ ∃ (x2 : Option D) (s : Int), e' = [some (.scr ns), some (zl p), x2, some (.int s), x4, x5] ∧ 0 ≤ s ∧ s < 2147483647 := by
    refine forL_map (P := fun xs e => ∃ (x2 : Option D) (s : Int), e = [some (.scr ns), some (zl p), x2, some (.int s), x4, x5] ∧ 0 ≤ s ∧ s < 2147483647) (fun e h => h) (fun x xs e h => ?_) ns _ ⟨x2, 17, rfl, by decide, by decide⟩
    obtain ⟨x2, s, rfl, h⟩ := h
    refine ⟨_, _, rfl, .inl ⟨?_, some (.int x), (s * 31 + x).fmod 2147483647, rfl, fmod_in _ (by decide)⟩⟩
    simp [lb3__law_pool, mul31 h]
  obtain ⟨e2, h2, y2, s, rfl, hs⟩ := L2
  have L3 : ∃ e', forL (.nm 4) lb4__law_pool (rangeD 0 300) [some (.scr ns), some (zl p), y2, some (.int s), x4, x5] = some (.ok .nx, e') ∧ ∃ (q : List Int) (s : Int) (x4 : Option D), e' = [some (.scr ns), some (zl q), y2, some (.int s), x4, x5] ∧ q.length = p.length + 300 := by
    refine forL_range (P := fun k e => ∃ (q : List Int) (s : Int) (x4 : Option D), e = [some (.scr ns), some (zl q), y2, some (.int s), x4, x5] ∧ q.length = p.length + k ∧ 0 ≤ s ∧ s < 2147483647) (fun e h => ?_) (fun k e hk h => ?_) _ ⟨p, s, x4, rfl, rfl, hs⟩
    · obtain ⟨q, s, x4, a, b, _⟩ := h
      exact ⟨q, s, x4, a, b⟩
    · obtain ⟨q, s, x4, rfl, hq, h⟩ := h
      have hq' : q.length < 16777216 := by omega
      refine ⟨_, _, rfl, .inl ⟨?_, q ++ [(((s * 48271 + 11).fmod 2147483647).fdiv 97).fmod 60], (s * 48271 + 11).fmod 2147483647, some (.int (0 + k)), rfl, by simp; omega, fmod_in _ (by decide)⟩⟩
      simp [lb4__law_pool, mul31 h, div97, dApp_zl hq']
  obtain ⟨e3, h3, q, s', z4, rfl, hq⟩ := L3
  refine ⟨q, fm_rt (e := [some (.scr ns), none, y2, some (.int s'), z4, x5]) ?_ rfl, by omega, by omega⟩
  have z0 : D.lst [] = zl [] := rfl
  simp [sv__law_pool, env0, z0, h1, h2, h3, rng1]
theorem p_stream (ns : List Int) (hn : ns.length ≤ 63) : ∃ p : List Int, m__law_stream [.scr ns] = some (.ok (zl p), []) ∧ PoolOk p ∧ p.length ≤ 10001 := by
  obtain ⟨p, h, h1, h2⟩ := p_pool ns hn
  refine ⟨1 :: p, fm_rt (e := [some (.scr ns)]) ?_ rfl, ⟨by simp; omega, by simp; omega⟩, by simp; omega⟩
  have hc : [1].length + p.length ≤ 16777216 := by simp; omega
  simp [sv__law_stream, env0, zl_1, bCall, fillIO, putIO, h, dCat_zl (l := [1]) (m := p) hc]
end Gk00
namespace Gk00
open PySem PySem.Spec L2 VL
theorem bl_py (l : List Bool) : (bl l).py = .list (l.map fun a => PyData.bool a) := by
  unfold bl
  simp only [D.py, pyL_map]
theorem bl_can (l : List Bool) : (bl l).py.canLay0 = true := by
  rw [bl_py]
  simp only [PyData.canLay0]
  exact canLay_map _ _ fun _ _ => by simp only [PyData.canLay0]
theorem bl_depth (l : List Bool) : (bl l).py.depth ≤ 1 := by
  rw [bl_py]
  simp only [PyData.depth]
  have := depth_map (fun a : Bool => PyData.bool a) 0 l fun _ _ => by simp only [PyData.depth]; exact Nat.le_refl _
  omega
theorem bl_eqv (l m : List Bool) : PyData.eqv (bl l).py (bl m).py = decide (l = m) := by
  rw [bl_py, bl_py]
  simp only [PyData.eqv]
  exact eqv_map _ (fun a b => by cases a <;> cases b <;> simp [PyData.eqv]) l m
theorem dNe_bl (l m : List Bool) : dNe (bl l) (bl m) = some (.bl (!decide (l = m))) := by
  have : dEqB (bl l) (bl m) = some (decide (l = m)) := by
    unfold dEqB
    rw [shaped_of (bl_can l) (bl_depth l) (by decide), shaped_of (bl_can m) (bl_depth m) (by decide), bl_eqv]
    rfl
  unfold dNe
  rw [this]
  rfl
theorem cp2 {f : Fm} {p p' : D} {a d : D} {r : List (Option D)} (h : f [p, a] = some (.ok d, [p'])) : bCall f [some 0, none] [a] (some p :: r) = some (.ok d, some p' :: r) := by
  simp [bCall, fillIO, putIO, h]
theorem cp3 {f : Fm} {p p' : D} {a b d : D} {r : List (Option D)} (h : f [p, a, b] = some (.ok d, [p'])) : bCall f [some 0, none, none] [a, b] (some p :: r) = some (.ok d, some p' :: r) := by
  simp [bCall, fillIO, putIO, h]
theorem c0n {f : Fm} {a d : D} {e : VL.Env} (h : f [a] = some (.ok d, [])) : bCall f [none] [a] e = some (.ok d, e) := by simp [bCall, fillIO, putIO, h]
theorem call2n {f : Fm} {a b d : D} {e : VL.Env} (h : f [a, b] = some (.ok d, [])) : bCall f [none, none] [a, b] e = some (.ok d, e) := by simp [bCall, fillIO, putIO, h]
theorem c1p {f : Fm} {p p' d : D} {x0 : Option D} {r : List (Option D)} (h : f [p] = some (.ok d, [p'])) : bCall f [some 1] [] (x0 :: some p :: r) = some (.ok d, x0 :: some p' :: r) := by
  simp [bCall, fillIO, putIO, h]
theorem c1pa {f : Fm} {p p' a d : D} {x0 : Option D} {r : List (Option D)} (h : f [p, a] = some (.ok d, [p'])) : bCall f [some 1, none] [a] (x0 :: some p :: r) = some (.ok d, x0 :: some p' :: r) := by
  simp [bCall, fillIO, putIO, h]
theorem within_loop {p : List Int} (h : PoolOk p) (low high kind : Int) : ∃ e', forL (.nm 5) lb1__law_within (rangeD 0 6) [some (zl p), some (.int low), some (.int high), some (.int kind), some (.int 0), none] = some (.ok .nx, e') ∧ ∃ (p' : List Int) (x : Option D) (r : Int), e' = [some (zl p'), some (.int low), some (.int high), some (.int kind), some (.int r), x] ∧ PoolOk p' := by
  refine forL_range (P := fun k e => ∃ (p' : List Int) (x : Option D) (r : Int), e = [some (zl p'), some (.int low), some (.int high), some (.int kind), some (.int r), x] ∧ PoolOk p' ∧ 0 ≤ r ∧ r < 2 ^ (6 * k)) (fun e h => ?_) (fun k e hk h => ?_) _ ⟨p, none, 0, rfl, h, by decide, by decide⟩
  · obtain ⟨p', x, r, a, b, _⟩ := h
    exact ⟨p', x, r, a, b⟩
  · obtain ⟨p', x, r, rfl, hp, h0, h1⟩ := h
    obtain ⟨a, p1, e1, b1, h1', _⟩ := p_pick hp (many := 60) (by decide)
    have hb : (2 : Int) ^ (6 * k) ≤ 2 ^ 36 := by
      have : (2 : Nat) ^ (6 * k) ≤ 2 ^ 36 := Nat.pow_le_pow_right (by decide) (by omega)
      exact_mod_cast this
    have hc : cMul r 60 = true := cMul_of (n := 37) (m := 6) (by
      have : (2 : Int) ^ 36 < 2 ^ 37 := by decide
      omega) (by decide) (by decide) (by decide) (by decide)
    refine ⟨_, _, rfl, .inl ⟨?_, p1, some (.int (0 + k)), r * 60 + a, rfl, h1', by omega, ?_⟩⟩
    · simp [lb1__law_within, cp2 e1, hc]
    · rw [show 6 * (k + 1) = 6 * k + 6 by omega, Int.pow_add]
      omega
theorem p_within {p : List Int} (h : PoolOk p) {low high : Int} (hlh : low ≤ high) : ∃ (r : Int) (p' : List Int), m__law_within [zl p, .int low, .int high] = some (.ok (.int r), [zl p']) ∧ (low ≤ r ∧ r ≤ high) ∧ PoolOk p' := by
  obtain ⟨k, p1, e1, b1, h1, _⟩ := p_pick h (many := 5) (by decide)
  by_cases hk : k < 2
  · have hr : ∃ r : Int, (low ≤ r ∧ r ≤ high) ∧ dIx (.lst [.int low, .int high]) (.int k) = some (.int r) := by
      have : k = 0 ∨ k = 1 := by omega
      rcases this with rfl | rfl
      · exact ⟨low, by omega, rfl⟩
      · exact ⟨high, by omega, rfl⟩
    obtain ⟨r, hr, er⟩ := hr
    refine ⟨r, p1, fm_rt (e := [some (zl p1), some (.int low), some (.int high), some (.int k), none, none]) ?_ rfl, hr, h1⟩
    simp [sv__law_within, env0, cp2 e1, hk, er]
  · obtain ⟨e', e2, p2, x, r, rfl, h2⟩ := within_loop h1 low high k
    have b := fmod_in r (m := high - low + 1) (by omega)
    have nz : ¬ high - low + 1 = 0 := by omega
    refine ⟨low + r.fmod (high - low + 1), p2, fm_rt (e := [some (zl p2), some (.int low), some (.int high), some (.int k), some (.int r), x]) ?_ rfl, by omega, h2⟩
    simp [sv__law_within, env0, cp2 e1, hk, rng1, e2, nz]
theorem pw60 : cPow 10 60 = true := by decide
theorem pw9 : cPow 10 9 = true := by decide
theorem p_drawn {p : List Int} (h : PoolOk p) : ∃ (a b c d e : Int) (p' : List Int), m__law_drawn [zl p] = some (.ok (zl [a, b, c, d, e]), [zl p']) ∧ PoolOk p' := by
  obtain ⟨g, p1, e1, b1, h1⟩ := p_within h (low := 1) (high := 1000000000) (by decide)
  obtain ⟨n, p2, e2, b2, h2⟩ := p_within h1 (low := -1000000000) (high := 1000000000) (by decide)
  obtain ⟨k, p3, e3, b3, h3, _⟩ := p_pick h2 (many := 5) (by decide)
  obtain ⟨bd, p4, e4, b4, h4⟩ := p_within h3 (low := 1) (high := 1000000000) (by decide)
  obtain ⟨k2, p5, e5, b5, h5, _⟩ := p_pick h4 (many := 5) (by decide)
  obtain ⟨line, p6, e6, b6, h6⟩ := p_within h5 (low := 1) (high := 200) (by decide)
  obtain ⟨pl, p7, e7, b7, h7⟩ := p_within h6 (low := 0) (high := 300) (by decide)
  obtain ⟨co, p8, e8, b8, h8⟩ := p_within h7 (low := 1) (high := 90) (by decide)
  obtain ⟨great, hg⟩ : ∃ great : Int, great = 1000000000000000000000000000000000000000000000000000000000000 + g := ⟨_, rfl⟩
  have hc : cMul great great = true := by
    have : (1000000000000000000000000000000000000000000000000000000000000 : Int) + 1000000000 < 2 ^ 250 := by decide
    exact cMul_of (n := 250) (m := 250) (by omega) (by omega) (by decide) (by decide) (by decide)
  have hn : ∃ r : Int, dIx (.lst [.int great, .int (0 - great), .int (great * great), .int n, .int 0]) (.int k) = some (.int r) := by
    have : k = 0 ∨ k = 1 ∨ k = 2 ∨ k = 3 ∨ k = 4 := by omega
    rcases this with rfl | rfl | rfl | rfl | rfl <;> exact ⟨_, rfl⟩
  obtain ⟨r, er⟩ := hn
  have hb : ∃ r : Int, dIx (.lst [.int 2000, .int 200, .int 40, .int bd, .int great]) (.int k2) = some (.int r) := by
    have : k2 = 0 ∨ k2 = 1 ∨ k2 = 2 ∨ k2 = 3 ∨ k2 = 4 := by omega
    rcases this with rfl | rfl | rfl | rfl | rfl <;> exact ⟨_, rfl⟩
  obtain ⟨r2, er2⟩ := hb
  refine ⟨r, r2, pl, line, line + co, p8, fm_rt (e := [some (zl p8), some (.int great), some (.int r), some (.int r2), some (.int line)]) ?_ rfl, h8⟩
  simp at er
  simp [sv__law_drawn, env0, pw60, pw9, cp3 e1, ← hg, cp3 e2, cp2 e3, hc, er, cp3 e4, cp2 e5, er2, cp3 e6, cp3 e7, cp3 e8]
  rfl
end Gk00
namespace Gk00
open PySem PySem.Spec L2 VL
noncomputable def q1_law : Sv := (sSet 1 (eCall m__law_stream [none] (aCons (eVar 0) aNil)))
noncomputable def q2_law : Sv := (sPar 5 6 (aCons (eCall m__law_drawn [some 1] (aIo 1 aNil)) (aCons (eCall m__law_drawn [some 1] (aIo 1 aNil)) aNil)))
noncomputable def q3_law : Sv := (sPar 7 8 (aCons (eCall m__law_made [none] (aCons (eVar 5) aNil)) (aCons (eCall m__law_made [none] (aCons (eVar 6) aNil)) aNil)))
noncomputable def q4_law : Sv := (sFor (ivL (eLst (aCons (eVar 7) (aCons (eVar 8) aNil)))) (.nm 2) lb3_law)
noncomputable def q5_law : Sv := (sSet 3 (eC (.exc "GridError" [])))
noncomputable def q6_law : Sv := (sIf (tvOr (tvNot (tvTru (eOp1 (dIsB exNames "Exception") (eVar 3)))) (tvOr (tvTru (eOp1 dAny (eCall m__law_kinds [none] (aCons (eVar 3) aNil)))) (tvTru (eCall m__law_narrower [none] (aCons (eVar 3) aNil))))) (sRet (eC (.bl false))) sNil)
noncomputable def q7_law : Sv := (sIf (tvOr (tvNot (tvTru (eCall m__law_alike [none, none] (aCons (eLst (aCons (eCall m__law_number_raised [none] (aCons (eScal (eOp2 dIx (eVar 6) (eC (.int 0)))) aNil)) aNil)) (aCons (eLst (aCons (eScal (eOp2 dIx (eVar 6) (eC (.int 0)))) aNil)) aNil))))) (tvNot (tvTru (eCall m__law_under_the_base [none] (aCons (eCall m__law_pick [some 1, none] (aIo 1 (aCons (eC (.int 4)) aNil))) aNil))))) (sRet (eC (.bl false))) sNil)
noncomputable def q8_law : Sv := (sSet 4 (eCall m__law_text_raised [none, none] (aCons (eScal (eOp2 dIx (eVar 5) (eC (.int 3)))) (aCons (eScal (eOp2 dIx (eVar 5) (eC (.int 4)))) aNil))))
noncomputable def q9_law : Sv := (sIf (tvOr (tvB (eIsN (eVar 4))) (tvNot (tvTru (eCall m__law_alike [none, none] (aCons (eVar 4) (aCons (eLst (aCons (eScal (eOp2 dIx (eVar 5) (eC (.int 3)))) (aCons (eScal (eOp2 dIx (eVar 5) (eC (.int 4)))) aNil))) aNil)))))) (sRet (eC (.bl false))) sNil)
noncomputable def q10_law : Sv := (sRet (eAnd (eCall m__law_alike [none, none] (aCons (eCall m__law_fields [none] (aCons (eVar 7) aNil)) (aCons (eVar 5) aNil))) (eCall m__law_alike [none, none] (aCons (eCall m__law_fields [none] (aCons (eVar 8) aNil)) (aCons (eVar 6) aNil)))))
theorem eq_sv_law : sv_law = (sSeq q1_law (sSeq q2_law (sSeq q3_law (sSeq q4_law (sSeq q5_law (sSeq q6_law (sSeq q7_law (sSeq q8_law (sSeq q9_law q10_law))))))))) := rfl
noncomputable def q1_l2_law : Sv := (sIf (tvOr (tvNot (tvTru (eOp1 (dIsX exNames "GridError") (eOp2 dIx (eVar 2) (eScal (eVar 9)))))) (tvOr (tvNot (tvTru (eOp1 (dIsB exNames "Exception") (eOp2 dIx (eVar 2) (eScal (eVar 9)))))) (tvTru (eCall m__law_narrower [none] (aCons (eOp2 dIx (eVar 2) (eScal (eVar 9))) aNil))))) (sRet (eC (.bl false))) sNil)
noncomputable def q2_l2_law : Sv := (sIf (tvB (eOp2 dNe (eCall m__law_kinds [none] (aCons (eOp2 dIx (eVar 2) (eScal (eVar 9))) aNil)) (eLc (ivR1 (aCons (eOp1 dLen (eVar 2)) aNil)) (.nm 10) tvYes ce1_law [10]))) (sRet (eC (.bl false))) sNil)
theorem eq_lb2_law : lb2_law = (sSeq q1_l2_law q2_l2_law) := rfl
/-- the classes in the law's order -/
def kn : List String := ["BadTable", "BadSides", "BadBody", "BadForm", "BadCoins", "BadPlace", "BadDeed", "BadTree", "NotUnimodular", "NoIndex", "NoCorners", "NotBounded", "NotPointed", "Dependent", "NothingToUndo", "NothingToRedo", "BadNumber", "TooMany", "BadEntry", "BadText"]
def excs (a b c d e : Int) : List D := [.exc "BadTable" [], .exc "BadSides" [], .exc "BadBody" [], .exc "BadForm" [], .exc "BadCoins" [], .exc "BadPlace" [], .exc "BadDeed" [], .exc "BadTree" [], .exc "NotUnimodular" [], .exc "NoIndex" [], .exc "NoCorners" [], .exc "NotBounded" [], .exc "NotPointed" [], .exc "Dependent" [], .exc "NothingToUndo" [], .exc "NothingToRedo" [],
  .exc "BadNumber" [("number", .int a)], .exc "TooMany" [("bound", .int b)], .exc "BadEntry" [("place", .int c)], .exc "BadText" [("line", .int d), ("column", .int e)]]
theorem excs_at (a b c d e : Int) : ∀ k < 20, ∃ fs, (excs a b c d e)[k]? = some (.exc (kn.getD k "") fs) := by
  intro k hk
  have : k = 0 ∨ k = 1 ∨ k = 2 ∨ k = 3 ∨ k = 4 ∨ k = 5 ∨ k = 6 ∨ k = 7 ∨ k = 8 ∨ k = 9 ∨ k = 10 ∨ k = 11 ∨ k = 12 ∨ k = 13 ∨ k = 14 ∨ k = 15 ∨ k = 16 ∨ k = 17 ∨ k = 18 ∨ k = 19 := by omega
  rcases this with rfl | rfl | rfl | rfl | rfl | rfl | rfl | rfl | rfl | rfl | rfl | rfl | rfl | rfl | rfl | rfl | rfl | rfl | rfl | rfl <;> exact ⟨_, rfl⟩
theorem kn_ok : ∀ k < 20, exNames.contains (kn.getD k "") = true ∧ kn.map (fun m => (kn.getD k "") == m || m == "GridError") = (List.range 20).map (fun i : Nat => decide (i = k)) := by decide +kernel
theorem gn_ok : exNames.contains "GridError" = true ∧ (kn.map (fun m => "GridError" == m || m == "GridError")) = List.replicate 20 false := by decide +kernel
theorem p_made (a b c d e : Int) : m__law_made [zl [a, b, c, d, e]] = some (.ok (.lst (excs a b c d e)), []) := by
  have e0 : dIx (zl [a, b, c, d, e]) (.int 0) = some (.int a) := rfl
  have e1 : dIx (zl [a, b, c, d, e]) (.int 1) = some (.int b) := rfl
  have e2 : dIx (zl [a, b, c, d, e]) (.int 2) = some (.int c) := rfl
  have e3 : dIx (zl [a, b, c, d, e]) (.int 3) = some (.int d) := rfl
  have e4 : dIx (zl [a, b, c, d, e]) (.int 4) = some (.int e) := rfl
  refine fm_rt (e := [some (zl [a, b, c, d, e]), some (.lst ((excs a b c d e).take 16))]) ?_ rfl
  simp [sv__law_made, env0, dCatA, eMkX, e0, e1, e2, e3, e4, D.svs, D.sv, excs]
theorem p_kinds {n : String} {fs : List (Str × V)} (h : exNames.contains n = true) : m__law_kinds [.exc n fs] = some (.ok (bl (kn.map fun m => n == m || m == "GridError")), []) := by
  have is : ∀ m, dIsX exNames m (.exc n fs) = some (.bl (n == m || m == "GridError")) := fun m => by
    show (if exNames.contains n = true then some (D.bl (n == m || m == "GridError")) else none) = _
    rw [if_pos h]
  refine fm_rt (e := [some (.exc n fs), some (.lst ((kn.take 19).map fun m => .bl (n == m || m == "GridError")))]) ?_ rfl
  simp [sv__law_kinds, env0, is, dCatS, D.flat, D.scal, kn, bl]
theorem p_narrower {n : String} {fs : List (Str × V)} (h : exNames.contains n = true) : m__law_narrower [.exc n fs] = some (.ok (.bl false), []) := by
  have is : ∀ T, bExc.contains T = true → dIsB exNames T (.exc n fs) = some (.bl (T == "Exception")) := fun T hT => by
    show (if (exNames.contains n && bExc.contains T) = true then some (D.bl (T == "Exception")) else none) = _
    rw [h, hT]
    rfl
  have i1 := is "ValueError" (by decide)
  have i2 := is "LookupError" (by decide)
  have i3 := is "ArithmeticError" (by decide)
  have i4 := is "TypeError" (by decide)
  have i5 := is "RuntimeError" (by decide)
  simp at i1 i2 i3 i4 i5
  refine fm_rt (e := [some (.exc n fs), some (.bl false)]) ?_ rfl
  simp [sv__law_narrower, env0, i1, i2, i3, i4, i5]
theorem is_exc {n : String} {fs : List (Str × V)} (h : exNames.contains n = true) : dIsB exNames "Exception" (.exc n fs) = some (.bl true) := by
  show (if (exNames.contains n && bExc.contains "Exception") = true then some (D.bl ("Exception" == "Exception")) else none) = _
  rw [h]
  rfl
theorem is_grid {n : String} {fs : List (Str × V)} (h : exNames.contains n = true) : dIsX exNames "GridError" (.exc n fs) = some (.bl true) := by
  show (if exNames.contains n = true then some (D.bl (n == "GridError" || "GridError" == "GridError")) else none) = _
  rw [if_pos h]
  simp
theorem p_fields (a b c d e : Int) : m__law_fields [.lst (excs a b c d e)] = some (.ok (zl [a, b, c, d, e]), []) := by
  have e0 : dIx (.lst (excs a b c d e)) (.int 16) = some (.exc "BadNumber" [("number", .int a)]) := rfl
  have e1 : dIx (.lst (excs a b c d e)) (.int 17) = some (.exc "TooMany" [("bound", .int b)]) := rfl
  have e2 : dIx (.lst (excs a b c d e)) (.int 18) = some (.exc "BadEntry" [("place", .int c)]) := rfl
  have e3 : dIx (.lst (excs a b c d e)) (.int 19) = some (.exc "BadText" [("line", .int d), ("column", .int e)]) := rfl
  have f0 : dFldX exNames exPairs "number" (.exc "BadNumber" [("number", .int a)]) = some (.int a) := rfl
  have f1 : dFldX exNames exPairs "bound" (.exc "TooMany" [("bound", .int b)]) = some (.int b) := rfl
  have f2 : dFldX exNames exPairs "place" (.exc "BadEntry" [("place", .int c)]) = some (.int c) := rfl
  have f3 : dFldX exNames exPairs "line" (.exc "BadText" [("line", .int d), ("column", .int e)]) = some (.int d) := rfl
  have f4 : dFldX exNames exPairs "column" (.exc "BadText" [("line", .int d), ("column", .int e)]) = some (.int e) := rfl
  refine fm_rt (e := [some (.lst (excs a b c d e))]) ?_ rfl
  simp [sv__law_fields, env0, e0, e1, e2, e3, f0, f1, f2, f3, f4]
  rfl
theorem p_alike (l : List Int) : m__law_alike [zl l, zl l] = some (.ok (.bl true), []) := by
  have l1 := eLc_map (f := D.int) (g := fun _ => D.bl false) (iv := ivL (eVar 0)) (t := .nm 2) (ev := ce1__law_alike) (vs := [2]) (env0 := [some (zl l), some (zl l), none, none]) (env := [some (zl l), some (zl l), none, none]) l rfl rfl (fun x hx => ⟨_, [some (zl l), some (zl l), some (.int x), none], rfl, by simp [ce1__law_alike], rfl⟩)
  have l2 := eLc_map (f := fun p : Int × Int => D.tup [.int p.1, .int p.2]) (g := fun _ => D.bl true) (iv := ivZ (eVar 0) (eVar 1)) (t := .tp [2, 3]) (ev := ce2__law_alike) (vs := [2, 3]) (env0 := [some (zl l), some (zl l), none, none]) (env := [some (zl l), some (zl l), none, none]) (l.zip l) (by
    simp only [x_ivZ, x_eVar, List.getElem?_cons_zero, List.getElem?_cons_succ, bindM_ok, bItems_zl]
    rw [zipD_map]) rfl (fun x hx => by
    have hx2 : x.1 = x.2 := by
      have : ∀ (m : List Int) (y : Int × Int), y ∈ m.zip m → y.1 = y.2 := fun m => by
        induction m with
        | nil => intro y hy; simp at hy
        | cons a m ih =>
          intro y hy
          simp only [List.zip_cons_cons, List.mem_cons] at hy
          rcases hy with rfl | hy
          · rfl
          · exact ih y hy
      exact this l x hx
    refine ⟨[some (zl l), some (zl l), some (.int x.1), some (.int x.2)], [some (zl l), some (zl l), some (.int x.1), some (.int x.2)], by simp [setAll], ?_, rfl⟩
    simp [ce2__law_alike, hx2])
  have a1 : dAny (.lst (l.map fun _ => D.bl false)) = some (.bl false) := by
    have : D.lst (l.map fun _ => D.bl false) = bl (l.map fun _ => false) := by
      unfold bl
      rw [List.map_map]
      rfl
    rw [this, dAny_bl]
    congr 2
    induction l with
    | nil => rfl
    | cons a l ih => simp
  have a2 : dAll (.lst ((l.zip l).map fun _ => D.bl true)) = some (.bl true) := by
    have : D.lst ((l.zip l).map fun _ => D.bl true) = bl ((l.zip l).map fun _ => true) := by
      unfold bl
      rw [List.map_map]
      rfl
    rw [this, dAll_bl]
    congr 2
    simp
  refine fm_rt (e := [some (zl l), some (zl l), none, none]) ?_ rfl
  simp [sv__law_alike, env0, l1, l2, a1, a2]
theorem l_turn (a b c d e : Int) {k : Nat} (hk : k < 20) (x0 x1 x3 x4 x5 x6 x7 x8 : Option D) : lb2_law [x0, x1, some (.lst (excs a b c d e)), x3, x4, x5, x6, x7, x8, some (.int (0 + k)), none] = some (.ok .nx, [x0, x1, some (.lst (excs a b c d e)), x3, x4, x5, x6, x7, x8, some (.int (0 + k)), none]) := by
  obtain ⟨fs, hfs⟩ := excs_at a b c d e k hk
  obtain ⟨h1, h2⟩ := kn_ok k hk
  generalize kn.getD k "" = n at *
  have ix : dIx (.lst (excs a b c d e)) (.int (0 + k)) = some (.exc n fs) := by
    have := atI_of hfs
    rw [Int.zero_add]
    exact this
  simp only [Int.zero_add] at ix
  have s1 : q1_l2_law [x0, x1, some (.lst (excs a b c d e)), x3, x4, x5, x6, x7, x8, some (.int k), none] = some (.ok .nx, [x0, x1, some (.lst (excs a b c d e)), x3, x4, x5, x6, x7, x8, some (.int k), none]) := by
    simp [q1_l2_law, ix, is_grid h1, is_exc h1, c0n (p_narrower (fs := fs) h1)]
  have hl : dLen (.lst (excs a b c d e)) = some (.int 20) := rfl
  have lc := eLc_map (f := fun i : Nat => D.int (0 + i)) (g := fun i : Nat => D.bl (decide (i = k))) (iv := ivR1 (aCons (eOp1 dLen (eVar 2)) aNil)) (t := .nm 10) (ev := ce1_law) (vs := [10]) (env0 := [x0, x1, some (.lst (excs a b c d e)), x3, x4, x5, x6, x7, x8, some (.int k), none]) (env := [x0, x1, some (.lst (excs a b c d e)), x3, x4, x5, x6, x7, x8, some (.int k), none]) (List.range 20) (by
    simp [hl, rng1, rangeD]) rfl (fun i hi => ⟨_, [x0, x1, some (.lst (excs a b c d e)), x3, x4, x5, x6, x7, x8, some (.int k), some (.int (0 + i))], rfl, by
      simp [ce1_law]
      omega, rfl⟩)
  have e2 : D.lst ((List.range 20).map fun i : Nat => D.bl (decide (i = k))) = bl ((List.range 20).map fun i : Nat => decide (i = k)) := by
    unfold bl
    rw [List.map_map]
    rfl
  rw [e2] at lc
  have pk := p_kinds (fs := fs) h1
  rw [h2] at pk
  rw [Int.zero_add, eq_lb2_law, seq_nx s1]
  simp [q2_l2_law, ix, c0n pk, lc, dNe_bl]
theorem l_list (a b c d e : Int) (x0 x1 x3 x4 x5 x6 x7 x8 x9 : Option D) : ∃ y9, lb3_law [x0, x1, some (.lst (excs a b c d e)), x3, x4, x5, x6, x7, x8, x9, none] = some (.ok .nx, [x0, x1, some (.lst (excs a b c d e)), x3, x4, x5, x6, x7, x8, y9, none]) := by
  have hl : dLen (.lst (excs a b c d e)) = some (.int 20) := rfl
  have L : ∃ e', forL (.nm 9) lb2_law (rangeD 0 20) [x0, x1, some (.lst (excs a b c d e)), x3, x4, x5, x6, x7, x8, x9, none] = some (.ok .nx, e') ∧ ∃ y9, e' = [x0, x1, some (.lst (excs a b c d e)), x3, x4, x5, x6, x7, x8, y9, none] := by
    refine forL_range (P := fun k e' => ∃ y9, e' = [x0, x1, some (.lst (excs a b c d e)), x3, x4, x5, x6, x7, x8, y9, none]) (fun e' h => h) (fun k e' hk h => ?_) _ ⟨x9, rfl⟩
    obtain ⟨y9, rfl⟩ := h
    exact ⟨_, _, rfl, .inl ⟨l_turn a b c d e hk x0 x1 x3 x4 x5 x6 x7 x8, _, rfl⟩⟩
  obtain ⟨e', e1, y9, rfl⟩ := L
  refine ⟨y9, ?_⟩
  unfold lb3_law
  rw [x_sFor]
  simp [hl, rng1, e1]
theorem law_pure (ns : List Int) (hns : ns.length ≤ 63) : m_law [.scr ns] = some (.ok (.bl true), []) := by
  obtain ⟨p0, e0, h0, l0⟩ := p_stream ns hns
  obtain ⟨a, b, c, d, e, p1, e1, h1⟩ := p_drawn h0
  obtain ⟨a', b', c', d', e', p2, e2, h2⟩ := p_drawn h1
  obtain ⟨r, p3, e3, b3, h3, _⟩ := p_pick h2 (many := 4) (by decide)
  have s1 : q1_law [some (.scr ns), none, none, none, none, none, none, none, none, none, none] = some (.ok .nx, [some (.scr ns), some (zl p0), none, none, none, none, none, none, none, none, none]) := by
    simp [q1_law, c0n e0]
  have s2 : q2_law [some (.scr ns), some (zl p0), none, none, none, none, none, none, none, none, none] = some (.ok .nx, [some (.scr ns), some (zl p2), none, none, none, some (zl [a, b, c, d, e]), some (zl [a', b', c', d', e']), none, none, none, none]) := by
    simp [q2_law, c1p e1, c1p e2]
  have s3 : q3_law [some (.scr ns), some (zl p2), none, none, none, some (zl [a, b, c, d, e]), some (zl [a', b', c', d', e']), none, none, none, none] = some (.ok .nx, [some (.scr ns), some (zl p2), none, none, none, some (zl [a, b, c, d, e]), some (zl [a', b', c', d', e']), some (.lst (excs a b c d e)), some (.lst (excs a' b' c' d' e')), none, none]) := by
    simp [q3_law, c0n (p_made a b c d e), c0n (p_made a' b' c' d' e')]
  obtain ⟨y9, t1⟩ := l_list a b c d e (some (.scr ns)) (some (zl p2)) none none (some (zl [a, b, c, d, e])) (some (zl [a', b', c', d', e'])) (some (.lst (excs a b c d e))) (some (.lst (excs a' b' c' d' e'))) none
  obtain ⟨z9, t2⟩ := l_list a' b' c' d' e' (some (.scr ns)) (some (zl p2)) none none (some (zl [a, b, c, d, e])) (some (zl [a', b', c', d', e'])) (some (.lst (excs a b c d e))) (some (.lst (excs a' b' c' d' e'))) y9
  have s4 : q4_law [some (.scr ns), some (zl p2), none, none, none, some (zl [a, b, c, d, e]), some (zl [a', b', c', d', e']), some (.lst (excs a b c d e)), some (.lst (excs a' b' c' d' e')), none, none] = some (.ok .nx, [some (.scr ns), some (zl p2), some (.lst (excs a' b' c' d' e')), none, none, some (zl [a, b, c, d, e]), some (zl [a', b', c', d', e']), some (.lst (excs a b c d e)), some (.lst (excs a' b' c' d' e')), z9, none]) := by
    have : ∀ (x y : D) (en : VL.Env), bItems (.lst [x, y]) en = some (.ok [x, y], en) := fun _ _ _ => rfl
    simp [q4_law, this, forL, t1, t2]
  have s5 : q5_law [some (.scr ns), some (zl p2), some (.lst (excs a' b' c' d' e')), none, none, some (zl [a, b, c, d, e]), some (zl [a', b', c', d', e']), some (.lst (excs a b c d e)), some (.lst (excs a' b' c' d' e')), z9, none] = some (.ok .nx, [some (.scr ns), some (zl p2), some (.lst (excs a' b' c' d' e')), some (.exc "GridError" []), none, some (zl [a, b, c, d, e]), some (zl [a', b', c', d', e']), some (.lst (excs a b c d e)), some (.lst (excs a' b' c' d' e')), z9, none]) := by
    simp [q5_law]
  obtain ⟨g1, g2⟩ := gn_ok
  have pk := p_kinds (fs := []) g1
  rw [g2] at pk
  have s6 : q6_law [some (.scr ns), some (zl p2), some (.lst (excs a' b' c' d' e')), some (.exc "GridError" []), none, some (zl [a, b, c, d, e]), some (zl [a', b', c', d', e']), some (.lst (excs a b c d e)), some (.lst (excs a' b' c' d' e')), z9, none] = some (.ok .nx, [some (.scr ns), some (zl p2), some (.lst (excs a' b' c' d' e')), some (.exc "GridError" []), none, some (zl [a, b, c, d, e]), some (zl [a', b', c', d', e']), some (.lst (excs a b c d e)), some (.lst (excs a' b' c' d' e')), z9, none]) := by
    have an : dAny (bl (List.replicate 20 false)) = some (.bl false) := by rw [dAny_bl]; rfl
    simp [q6_law, is_exc g1, c0n pk, an, c0n (p_narrower (fs := []) g1)]
  have i0 : dIx (zl [a', b', c', d', e']) (.int 0) = some (.int a') := rfl
  have i3 : dIx (zl [a, b, c, d, e]) (.int 3) = some (.int d) := rfl
  have i4 : dIx (zl [a, b, c, d, e]) (.int 4) = some (.int e) := rfl
  have nr : m__law_number_raised [.int a'] = some (.ok (.int a'), []) := rfl
  have ub : m__law_under_the_base [.int r] = some (.ok (.bl true), []) := rfl
  have tr : m__law_text_raised [.int d, .int e] = some (.ok (zl [d, e]), []) := rfl
  have s7 : q7_law [some (.scr ns), some (zl p2), some (.lst (excs a' b' c' d' e')), some (.exc "GridError" []), none, some (zl [a, b, c, d, e]), some (zl [a', b', c', d', e']), some (.lst (excs a b c d e)), some (.lst (excs a' b' c' d' e')), z9, none] = some (.ok .nx, [some (.scr ns), some (zl p3), some (.lst (excs a' b' c' d' e')), some (.exc "GridError" []), none, some (zl [a, b, c, d, e]), some (zl [a', b', c', d', e']), some (.lst (excs a b c d e)), some (.lst (excs a' b' c' d' e')), z9, none]) := by
    simp [q7_law, i0, c0n nr, zl_1, call2n (p_alike [a']), c1pa e3, c0n ub]
  have s8 : q8_law [some (.scr ns), some (zl p3), some (.lst (excs a' b' c' d' e')), some (.exc "GridError" []), none, some (zl [a, b, c, d, e]), some (zl [a', b', c', d', e']), some (.lst (excs a b c d e)), some (.lst (excs a' b' c' d' e')), z9, none] = some (.ok .nx, [some (.scr ns), some (zl p3), some (.lst (excs a' b' c' d' e')), some (.exc "GridError" []), some (zl [d, e]), some (zl [a, b, c, d, e]), some (zl [a', b', c', d', e']), some (.lst (excs a b c d e)), some (.lst (excs a' b' c' d' e')), z9, none]) := by
    simp [q8_law, i3, i4, call2n tr]
  have s9 : q9_law [some (.scr ns), some (zl p3), some (.lst (excs a' b' c' d' e')), some (.exc "GridError" []), some (zl [d, e]), some (zl [a, b, c, d, e]), some (zl [a', b', c', d', e']), some (.lst (excs a b c d e)), some (.lst (excs a' b' c' d' e')), z9, none] = some (.ok .nx, [some (.scr ns), some (zl p3), some (.lst (excs a' b' c' d' e')), some (.exc "GridError" []), some (zl [d, e]), some (zl [a, b, c, d, e]), some (zl [a', b', c', d', e']), some (.lst (excs a b c d e)), some (.lst (excs a' b' c' d' e')), z9, none]) := by
    have nn : eIsN (eVar 4) [some (.scr ns), some (zl p3), some (.lst (excs a' b' c' d' e')), some (.exc "GridError" []), some (zl [d, e]), some (zl [a, b, c, d, e]), some (zl [a', b', c', d', e']), some (.lst (excs a b c d e)), some (.lst (excs a' b' c' d' e')), z9, none] = some (.ok (.bl false), [some (.scr ns), some (zl p3), some (.lst (excs a' b' c' d' e')), some (.exc "GridError" []), some (zl [d, e]), some (zl [a, b, c, d, e]), some (zl [a', b', c', d', e']), some (.lst (excs a b c d e)), some (.lst (excs a' b' c' d' e')), z9, none]) := rfl
    simp [q9_law, nn, i3, i4, zl_2, call2n (p_alike [d, e])]
  refine fm_rt (e := [some (.scr ns), some (zl p3), some (.lst (excs a' b' c' d' e')), some (.exc "GridError" []), some (zl [d, e]), some (zl [a, b, c, d, e]), some (zl [a', b', c', d', e']), some (.lst (excs a b c d e)), some (.lst (excs a' b' c' d' e')), z9, none]) ?_ rfl
  show sv_law [some (.scr ns), none, none, none, none, none, none, none, none, none, none] = _
  rw [eq_sv_law, seq_nx s1, seq_nx s2, seq_nx s3, seq_nx s4, seq_nx s5, seq_nx s6, seq_nx s7, seq_nx s8, seq_nx s9]
  simp [q10_law, c0n (p_fields a b c d e), c0n (p_fields a' b' c' d' e'), call2n (p_alike _)]
end Gk00
namespace Gk00
open PySem PySem.Spec L2 VL
def spLaw (K : PySem.W.Frag) : Sp := fun vs H Q _ => ∃ (a : Addr) (ns : List Int), vs = [.ref a] ∧ SqL K H a (ns.map V.int) ∧ ns.length ≤ 63 ∧ ∀ H', Q (.bl true) H'
theorem spLaw_of {K : PySem.W.Frag} {ca : String → Addr} (hlaw : ∀ ns : List Int, ns.length ≤ 63 → m_law [.scr ns] = some (.ok (.bl true), [])) {vs : List V} {H : Hp} {Q : VK} {E : XK} (h : spLaw K vs H Q E) : spV K ca [false] true m_law vs H Q E := by
  obtain ⟨a, ns, rfl, hS, hl, hq⟩ := h
  obtain ⟨F, rp⟩ := scr_rp hS (by rw [sizeLine_eq]; omega)
  refine ⟨[.scr ns], F ++ [], [], _, [], .val rp .nil, List.nodup_nil, (fun F hF => nomatch hF), hlaw ns hl, fun v H' F' Ms' post => ?_⟩
  have := post.rp
  cases this
  exact hq H'
theorem ex_inj : ∀ n ∈ exNames, ∀ m ∈ exNames, Str.ofString n = Str.ofString m → n = m := by decide +kernel
theorem kx_of {K : PySem.W.Frag} {C G N : Addr} {n : String} {q : Str} {bs : List Value} {hd : Bool} {sn : List Str} {sub : List Value} {ab : Bool} {col : Option Bool} {dd : Option Addr} {k0 k1 k2 k3 k5 : Option Value} {nid : String} (hn : n ≠ "GridError") (nm : PySem.W.nsIn K mainGlobals (Str.ofString n) = some (some (.ref C)))
    (xL : K.lookup C = some (excClassObj (Str.ofString n) q C N bs [.ref G, .type "Exception", .type "BaseException", .type "object"] hd sn sub ab col dd k0 k1 k2 k3 k5 nid)) (ga : PySem.W.findIn K (.ref C) "__getattribute__" = some (some (.builtin "BaseException.__getattribute__"))) (gg : PySem.W.findIn K (.ref C) "__getattr__" = some none) (ca : PySem.W.findIn K (.ref C) "__class__" = some (some (.builtin "object.__class__"))) : Kx K G n C :=
  ⟨nm, ⟨q, N, bs, hd, sn, sub, ab, col, dd, k0, k1, k2, k3, k5, nid, by rw [if_neg hn]; exact xL⟩, ga, gg, ca⟩
theorem kx_base {K : PySem.W.Frag} {C G N : Addr} {q : Str} {bs : List Value} {hd : Bool} {sn : List Str} {sub : List Value} {ab : Bool} {col : Option Bool} {dd : Option Addr} {k0 k1 k2 k3 k5 : Option Value} {nid : String} (nm : PySem.W.nsIn K mainGlobals (Str.ofString "GridError") = some (some (.ref C)))
    (xL : K.lookup C = some (excClassObj (Str.ofString "GridError") q C N bs [.type "Exception", .type "BaseException", .type "object"] hd sn sub ab col dd k0 k1 k2 k3 k5 nid)) (ga : PySem.W.findIn K (.ref C) "__getattribute__" = some (some (.builtin "BaseException.__getattribute__"))) (gg : PySem.W.findIn K (.ref C) "__getattr__" = some none) (ca : PySem.W.findIn K (.ref C) "__class__" = some (some (.builtin "object.__class__"))) : Kx K G "GridError" C :=
  ⟨nm, ⟨q, N, bs, hd, sn, sub, ab, col, dd, k0, k1, k2, k3, k5, nid, by rw [if_pos rfl]; exact xL⟩, ga, gg, ca⟩
theorem all_mk {l : PySem.W.OpenLaw} {w : World} {K : PySem.W.Frag} {h : Heap} {mg : Str → Option Value} {fa f1 f2 f3 f4 f5 f6 f7 f8 f9 f10 f11 f12 f13 f14 : Addr} (X : K.In h) (G : h.Ns mainGlobals mg) (hfa : mg "law" = some (.ref fa))
    {od1 an1 od2 an2 od3 an3 od4 an4 od5 an5 od6 an6 od7 an7 od8 an8 od9 an9 od10 an10 od11 an11 od12 an12 od13 an13 od14 an14 : Option Addr} {sl1 sl2 sl3 sl4 sl5 sl6 sl7 sl8 sl9 sl10 sl11 sl12 sl13 sl14 : Array (Option Value)} {oc1 kV1 dc1 pm1 cd1 ct1 oc2 kV2 dc2 pm2 cd2 ct2 oc3 kV3 dc3 pm3 cd3 ct3 oc4 kV4 dc4 pm4 cd4 ct4 oc5 kV5 dc5 pm5 cd5 ct5 oc6 kV6 dc6 pm6 cd6 ct6 oc7 kV7 dc7 pm7 cd7 ct7 oc8 kV8 dc8 pm8 cd8 ct8 oc9 kV9 dc9 pm9 cd9 ct9 oc10 kV10 dc10 pm10 cd10 ct10 oc11 kV11 dc11 pm11 cd11 ct11 oc12 kV12 dc12 pm12 cd12 ct12 oc13 kV13 dc13 pm13 cd13 ct13 oc14 kV14 dc14 pm14 cd14 ct14 : Value}  {C_GridError N_GridError C_BadTable N_BadTable C_BadSides N_BadSides C_BadBody N_BadBody C_BadForm N_BadForm C_BadCoins N_BadCoins C_BadPlace N_BadPlace C_BadDeed N_BadDeed C_BadTree N_BadTree C_NotUnimodular N_NotUnimodular C_NoIndex N_NoIndex C_NoCorners N_NoCorners C_NotBounded N_NotBounded C_NotPointed N_NotPointed C_Dependent N_Dependent C_NothingToUndo N_NothingToUndo C_NothingToRedo N_NothingToRedo C_BadNumber N_BadNumber C_TooMany N_TooMany C_BadEntry N_BadEntry C_BadText N_BadText I_BadNumber cda_BadNumber cc_BadNumber I_TooMany cda_TooMany cc_TooMany I_BadEntry cda_BadEntry cc_BadEntry I_BadText cda_BadText cc_BadText : Addr} {q_GridError : Str} {nid_GridError : String} {hd_GridError : Bool} {ab_GridError : Bool} {bs_GridError sub_GridError : List Value} {sn_GridError : List Str} {col_GridError : Option Bool} {dd_GridError : Option Addr} {k0_GridError k1_GridError k2_GridError k3_GridError k5_GridError : Option Value} {q_BadTable : Str} {nid_BadTable : String} {hd_BadTable : Bool} {ab_BadTable : Bool} {bs_BadTable sub_BadTable : List Value} {sn_BadTable : List Str} {col_BadTable : Option Bool} {dd_BadTable : Option Addr} {k0_BadTable k1_BadTable k2_BadTable k3_BadTable k5_BadTable : Option Value} {q_BadSides : Str} {nid_BadSides : String} {hd_BadSides : Bool} {ab_BadSides : Bool} {bs_BadSides sub_BadSides : List Value} {sn_BadSides : List Str} {col_BadSides : Option Bool} {dd_BadSides : Option Addr} {k0_BadSides k1_BadSides k2_BadSides k3_BadSides k5_BadSides : Option Value} {q_BadBody : Str} {nid_BadBody : String} {hd_BadBody : Bool} {ab_BadBody : Bool} {bs_BadBody sub_BadBody : List Value} {sn_BadBody : List Str} {col_BadBody : Option Bool} {dd_BadBody : Option Addr} {k0_BadBody k1_BadBody k2_BadBody k3_BadBody k5_BadBody : Option Value} {q_BadForm : Str} {nid_BadForm : String} {hd_BadForm : Bool} {ab_BadForm : Bool} {bs_BadForm sub_BadForm : List Value} {sn_BadForm : List Str} {col_BadForm : Option Bool} {dd_BadForm : Option Addr} {k0_BadForm k1_BadForm k2_BadForm k3_BadForm k5_BadForm : Option Value} {q_BadCoins : Str} {nid_BadCoins : String} {hd_BadCoins : Bool} {ab_BadCoins : Bool} {bs_BadCoins sub_BadCoins : List Value} {sn_BadCoins : List Str} {col_BadCoins : Option Bool} {dd_BadCoins : Option Addr} {k0_BadCoins k1_BadCoins k2_BadCoins k3_BadCoins k5_BadCoins : Option Value} {q_BadPlace : Str} {nid_BadPlace : String} {hd_BadPlace : Bool} {ab_BadPlace : Bool} {bs_BadPlace sub_BadPlace : List Value} {sn_BadPlace : List Str} {col_BadPlace : Option Bool} {dd_BadPlace : Option Addr} {k0_BadPlace k1_BadPlace k2_BadPlace k3_BadPlace k5_BadPlace : Option Value} {q_BadDeed : Str} {nid_BadDeed : String} {hd_BadDeed : Bool} {ab_BadDeed : Bool} {bs_BadDeed sub_BadDeed : List Value} {sn_BadDeed : List Str} {col_BadDeed : Option Bool} {dd_BadDeed : Option Addr} {k0_BadDeed k1_BadDeed k2_BadDeed k3_BadDeed k5_BadDeed : Option Value} {q_BadTree : Str} {nid_BadTree : String} {hd_BadTree : Bool} {ab_BadTree : Bool} {bs_BadTree sub_BadTree : List Value} {sn_BadTree : List Str} {col_BadTree : Option Bool} {dd_BadTree : Option Addr} {k0_BadTree k1_BadTree k2_BadTree k3_BadTree k5_BadTree : Option Value} {q_NotUnimodular : Str} {nid_NotUnimodular : String} {hd_NotUnimodular : Bool} {ab_NotUnimodular : Bool} {bs_NotUnimodular sub_NotUnimodular : List Value} {sn_NotUnimodular : List Str} {col_NotUnimodular : Option Bool} {dd_NotUnimodular : Option Addr} {k0_NotUnimodular k1_NotUnimodular k2_NotUnimodular k3_NotUnimodular k5_NotUnimodular : Option Value} {q_NoIndex : Str} {nid_NoIndex : String} {hd_NoIndex : Bool} {ab_NoIndex : Bool} {bs_NoIndex sub_NoIndex : List Value} {sn_NoIndex : List Str} {col_NoIndex : Option Bool} {dd_NoIndex : Option Addr} {k0_NoIndex k1_NoIndex k2_NoIndex k3_NoIndex k5_NoIndex : Option Value} {q_NoCorners : Str} {nid_NoCorners : String} {hd_NoCorners : Bool} {ab_NoCorners : Bool} {bs_NoCorners sub_NoCorners : List Value} {sn_NoCorners : List Str} {col_NoCorners : Option Bool} {dd_NoCorners : Option Addr} {k0_NoCorners k1_NoCorners k2_NoCorners k3_NoCorners k5_NoCorners : Option Value} {q_NotBounded : Str} {nid_NotBounded : String} {hd_NotBounded : Bool} {ab_NotBounded : Bool} {bs_NotBounded sub_NotBounded : List Value} {sn_NotBounded : List Str} {col_NotBounded : Option Bool} {dd_NotBounded : Option Addr} {k0_NotBounded k1_NotBounded k2_NotBounded k3_NotBounded k5_NotBounded : Option Value} {q_NotPointed : Str} {nid_NotPointed : String} {hd_NotPointed : Bool} {ab_NotPointed : Bool} {bs_NotPointed sub_NotPointed : List Value} {sn_NotPointed : List Str} {col_NotPointed : Option Bool} {dd_NotPointed : Option Addr} {k0_NotPointed k1_NotPointed k2_NotPointed k3_NotPointed k5_NotPointed : Option Value} {q_Dependent : Str} {nid_Dependent : String} {hd_Dependent : Bool} {ab_Dependent : Bool} {bs_Dependent sub_Dependent : List Value} {sn_Dependent : List Str} {col_Dependent : Option Bool} {dd_Dependent : Option Addr} {k0_Dependent k1_Dependent k2_Dependent k3_Dependent k5_Dependent : Option Value} {q_NothingToUndo : Str} {nid_NothingToUndo : String} {hd_NothingToUndo : Bool} {ab_NothingToUndo : Bool} {bs_NothingToUndo sub_NothingToUndo : List Value} {sn_NothingToUndo : List Str} {col_NothingToUndo : Option Bool} {dd_NothingToUndo : Option Addr} {k0_NothingToUndo k1_NothingToUndo k2_NothingToUndo k3_NothingToUndo k5_NothingToUndo : Option Value} {q_NothingToRedo : Str} {nid_NothingToRedo : String} {hd_NothingToRedo : Bool} {ab_NothingToRedo : Bool} {bs_NothingToRedo sub_NothingToRedo : List Value} {sn_NothingToRedo : List Str} {col_NothingToRedo : Option Bool} {dd_NothingToRedo : Option Addr} {k0_NothingToRedo k1_NothingToRedo k2_NothingToRedo k3_NothingToRedo k5_NothingToRedo : Option Value} {q_BadNumber : Str} {ab_BadNumber : Bool} {bs_BadNumber sub_BadNumber : List Value} {sn_BadNumber : List Str} {col_BadNumber : Option Bool} {dd_BadNumber : Option Addr} {k0_BadNumber k1_BadNumber k2_BadNumber k3_BadNumber k5_BadNumber : Option Value} {q_TooMany : Str} {ab_TooMany : Bool} {bs_TooMany sub_TooMany : List Value} {sn_TooMany : List Str} {col_TooMany : Option Bool} {dd_TooMany : Option Addr} {k0_TooMany k1_TooMany k2_TooMany k3_TooMany k5_TooMany : Option Value} {q_BadEntry : Str} {ab_BadEntry : Bool} {bs_BadEntry sub_BadEntry : List Value} {sn_BadEntry : List Str} {col_BadEntry : Option Bool} {dd_BadEntry : Option Addr} {k0_BadEntry k1_BadEntry k2_BadEntry k3_BadEntry k5_BadEntry : Option Value} {q_BadText : Str} {ab_BadText : Bool} {bs_BadText sub_BadText : List Value} {sn_BadText : List Str} {col_BadText : Option Bool} {dd_BadText : Option Addr} {k0_BadText k1_BadText k2_BadText k3_BadText k5_BadText : Option Value} {qual_BadNumber file_BadNumber : Str} {od_BadNumber an_BadNumber cdd_BadNumber cld_BadNumber : Option Addr} {oc_BadNumber doc_BadNumber pm_BadNumber ct_BadNumber ccl_BadNumber cl_BadNumber : Value} {osl_BadNumber ccs_BadNumber csl_BadNumber : Array (Option Value)} {vs_BadNumber : Array Value} {tf_BadNumber : Tok} {qual_TooMany file_TooMany : Str} {od_TooMany an_TooMany cdd_TooMany cld_TooMany : Option Addr} {oc_TooMany doc_TooMany pm_TooMany ct_TooMany ccl_TooMany cl_TooMany : Value} {osl_TooMany ccs_TooMany csl_TooMany : Array (Option Value)} {vs_TooMany : Array Value} {tf_TooMany : Tok} {qual_BadEntry file_BadEntry : Str} {od_BadEntry an_BadEntry cdd_BadEntry cld_BadEntry : Option Addr} {oc_BadEntry doc_BadEntry pm_BadEntry ct_BadEntry ccl_BadEntry cl_BadEntry : Value} {osl_BadEntry ccs_BadEntry csl_BadEntry : Array (Option Value)} {vs_BadEntry : Array Value} {tf_BadEntry : Tok} {qual_BadText file_BadText : Str} {od_BadText an_BadText cdd_BadText cld_BadText : Option Addr} {oc_BadText doc_BadText pm_BadText ct_BadText ccl_BadText cl_BadText : Value} {osl_BadText ccs_BadText csl_BadText : Array (Option Value)} {vs_BadText : Array Value} {tf_BadText : Tok} 
    (a1 : PySem.W.nsIn K mainGlobals "_law_pool" = some (some (.ref f1)))
    (l1 : K.lookup f1 = some ⟨oc1, od1, .func (PySem.W.fnOf "_law_pool" "_law_pool" (defArgs s__law_pool) (defBody s__law_pool) (defScope s__law_pool) .none kV1 dc1 pm1 an1 cd1 ct1), sl1⟩)
    (c1 : PySem.W.codeIn K cd1 "_law_pool" = true)
    (k1 : PySem.W.keepIn K (.ref f1) = true)
    (a2 : PySem.W.nsIn K mainGlobals "_law_stream" = some (some (.ref f2)))
    (l2 : K.lookup f2 = some ⟨oc2, od2, .func (PySem.W.fnOf "_law_stream" "_law_stream" (defArgs s__law_stream) (defBody s__law_stream) (defScope s__law_stream) .none kV2 dc2 pm2 an2 cd2 ct2), sl2⟩)
    (c2 : PySem.W.codeIn K cd2 "_law_stream" = true)
    (k2 : PySem.W.keepIn K (.ref f2) = true)
    (a3 : PySem.W.nsIn K mainGlobals "_law_pick" = some (some (.ref f3)))
    (l3 : K.lookup f3 = some ⟨oc3, od3, .func (PySem.W.fnOf "_law_pick" "_law_pick" (defArgs s__law_pick) (defBody s__law_pick) (defScope s__law_pick) .none kV3 dc3 pm3 an3 cd3 ct3), sl3⟩)
    (c3 : PySem.W.codeIn K cd3 "_law_pick" = true)
    (k3 : PySem.W.keepIn K (.ref f3) = true)
    (a4 : PySem.W.nsIn K mainGlobals "_law_within" = some (some (.ref f4)))
    (l4 : K.lookup f4 = some ⟨oc4, od4, .func (PySem.W.fnOf "_law_within" "_law_within" (defArgs s__law_within) (defBody s__law_within) (defScope s__law_within) .none kV4 dc4 pm4 an4 cd4 ct4), sl4⟩)
    (c4 : PySem.W.codeIn K cd4 "_law_within" = true)
    (k4 : PySem.W.keepIn K (.ref f4) = true)
    (a5 : PySem.W.nsIn K mainGlobals "_law_made" = some (some (.ref f5)))
    (l5 : K.lookup f5 = some ⟨oc5, od5, .func (PySem.W.fnOf "_law_made" "_law_made" (defArgs s__law_made) (defBody s__law_made) (defScope s__law_made) .none kV5 dc5 pm5 an5 cd5 ct5), sl5⟩)
    (c5 : PySem.W.codeIn K cd5 "_law_made" = true)
    (k5 : PySem.W.keepIn K (.ref f5) = true)
    (a6 : PySem.W.nsIn K mainGlobals "_law_kinds" = some (some (.ref f6)))
    (l6 : K.lookup f6 = some ⟨oc6, od6, .func (PySem.W.fnOf "_law_kinds" "_law_kinds" (defArgs s__law_kinds) (defBody s__law_kinds) (defScope s__law_kinds) .none kV6 dc6 pm6 an6 cd6 ct6), sl6⟩)
    (c6 : PySem.W.codeIn K cd6 "_law_kinds" = true)
    (k6 : PySem.W.keepIn K (.ref f6) = true)
    (a7 : PySem.W.nsIn K mainGlobals "_law_narrower" = some (some (.ref f7)))
    (l7 : K.lookup f7 = some ⟨oc7, od7, .func (PySem.W.fnOf "_law_narrower" "_law_narrower" (defArgs s__law_narrower) (defBody s__law_narrower) (defScope s__law_narrower) .none kV7 dc7 pm7 an7 cd7 ct7), sl7⟩)
    (c7 : PySem.W.codeIn K cd7 "_law_narrower" = true)
    (k7 : PySem.W.keepIn K (.ref f7) = true)
    (a8 : PySem.W.nsIn K mainGlobals "_law_fields" = some (some (.ref f8)))
    (l8 : K.lookup f8 = some ⟨oc8, od8, .func (PySem.W.fnOf "_law_fields" "_law_fields" (defArgs s__law_fields) (defBody s__law_fields) (defScope s__law_fields) .none kV8 dc8 pm8 an8 cd8 ct8), sl8⟩)
    (c8 : PySem.W.codeIn K cd8 "_law_fields" = true)
    (k8 : PySem.W.keepIn K (.ref f8) = true)
    (a9 : PySem.W.nsIn K mainGlobals "_law_drawn" = some (some (.ref f9)))
    (l9 : K.lookup f9 = some ⟨oc9, od9, .func (PySem.W.fnOf "_law_drawn" "_law_drawn" (defArgs s__law_drawn) (defBody s__law_drawn) (defScope s__law_drawn) .none kV9 dc9 pm9 an9 cd9 ct9), sl9⟩)
    (c9 : PySem.W.codeIn K cd9 "_law_drawn" = true)
    (k9 : PySem.W.keepIn K (.ref f9) = true)
    (a10 : PySem.W.nsIn K mainGlobals "_law_number_raised" = some (some (.ref f10)))
    (l10 : K.lookup f10 = some ⟨oc10, od10, .func (PySem.W.fnOf "_law_number_raised" "_law_number_raised" (defArgs s__law_number_raised) (defBody s__law_number_raised) (defScope s__law_number_raised) .none kV10 dc10 pm10 an10 cd10 ct10), sl10⟩)
    (c10 : PySem.W.codeIn K cd10 "_law_number_raised" = true)
    (k10 : PySem.W.keepIn K (.ref f10) = true)
    (a11 : PySem.W.nsIn K mainGlobals "_law_text_raised" = some (some (.ref f11)))
    (l11 : K.lookup f11 = some ⟨oc11, od11, .func (PySem.W.fnOf "_law_text_raised" "_law_text_raised" (defArgs s__law_text_raised) (defBody s__law_text_raised) (defScope s__law_text_raised) .none kV11 dc11 pm11 an11 cd11 ct11), sl11⟩)
    (c11 : PySem.W.codeIn K cd11 "_law_text_raised" = true)
    (k11 : PySem.W.keepIn K (.ref f11) = true)
    (a12 : PySem.W.nsIn K mainGlobals "_law_under_the_base" = some (some (.ref f12)))
    (l12 : K.lookup f12 = some ⟨oc12, od12, .func (PySem.W.fnOf "_law_under_the_base" "_law_under_the_base" (defArgs s__law_under_the_base) (defBody s__law_under_the_base) (defScope s__law_under_the_base) .none kV12 dc12 pm12 an12 cd12 ct12), sl12⟩)
    (c12 : PySem.W.codeIn K cd12 "_law_under_the_base" = true)
    (k12 : PySem.W.keepIn K (.ref f12) = true)
    (a13 : PySem.W.nsIn K mainGlobals "_law_alike" = some (some (.ref f13)))
    (l13 : K.lookup f13 = some ⟨oc13, od13, .func (PySem.W.fnOf "_law_alike" "_law_alike" (defArgs s__law_alike) (defBody s__law_alike) (defScope s__law_alike) .none kV13 dc13 pm13 an13 cd13 ct13), sl13⟩)
    (c13 : PySem.W.codeIn K cd13 "_law_alike" = true)
    (k13 : PySem.W.keepIn K (.ref f13) = true)
    (a14 : PySem.W.nsIn K mainGlobals "law" = some (some (.ref f14)))
    (l14 : K.lookup f14 = some ⟨oc14, od14, .func (PySem.W.fnOf "law" "law" (defArgs s_law) (defBody s_law) (defScope s_law) .none kV14 dc14 pm14 an14 cd14 ct14), sl14⟩)
    (c14 : PySem.W.codeIn K cd14 "law" = true)
    (k14 : PySem.W.keepIn K (.ref f14) = true)
    (z_int : PySem.W.nsIn K mainGlobals "int" = some none)
    (z_range : PySem.W.nsIn K mainGlobals "range" = some none)
    (z_len : PySem.W.nsIn K mainGlobals "len" = some none)
    (z_isinstance : PySem.W.nsIn K mainGlobals "isinstance" = some none)
    (z_ValueError : PySem.W.nsIn K mainGlobals "ValueError" = some none)
    (z_LookupError : PySem.W.nsIn K mainGlobals "LookupError" = some none)
    (z_ArithmeticError : PySem.W.nsIn K mainGlobals "ArithmeticError" = some none)
    (z_TypeError : PySem.W.nsIn K mainGlobals "TypeError" = some none)
    (z_RuntimeError : PySem.W.nsIn K mainGlobals "RuntimeError" = some none)
    (z_bool : PySem.W.nsIn K mainGlobals "bool" = some none)
    (z_any : PySem.W.nsIn K mainGlobals "any" = some none)
    (z_zip : PySem.W.nsIn K mainGlobals "zip" = some none)
    (z_all : PySem.W.nsIn K mainGlobals "all" = some none)
    (z_Exception : PySem.W.nsIn K mainGlobals "Exception" = some none)
    (z_super : PySem.W.nsIn K mainGlobals "super" = some none)
    (z_opq : PySem.W.nsIn K cStatics "thirdparty.any" = some none)
    (z_top : (l.prog.main.scope.names.lookup ("super" : Str)).isSome = false)
    (a_GridError : PySem.W.nsIn K mainGlobals "GridError" = some (some (.ref C_GridError)))
    (xL_GridError : K.lookup C_GridError = some (excClassObj (Str.ofString "GridError") q_GridError C_GridError N_GridError bs_GridError [.type "Exception", .type "BaseException", .type "object"] hd_GridError sn_GridError sub_GridError ab_GridError col_GridError dd_GridError k0_GridError k1_GridError k2_GridError k3_GridError k5_GridError nid_GridError))
    (ga_GridError : PySem.W.findIn K (.ref C_GridError) "__getattribute__" = some (some (.builtin "BaseException.__getattribute__")))
    (gg_GridError : PySem.W.findIn K (.ref C_GridError) "__getattr__" = some none)
    (ca_GridError : PySem.W.findIn K (.ref C_GridError) "__class__" = some (some (.builtin "object.__class__")))
    (kC_GridError : PySem.W.keepIn K (.ref C_GridError) = true)
    (q0_GridError : PySem.W.excIn K C_GridError [.type "Exception", .type "BaseException", .type "object"] "Exception.__new__" = true)
    (a_BadTable : PySem.W.nsIn K mainGlobals "BadTable" = some (some (.ref C_BadTable)))
    (xL_BadTable : K.lookup C_BadTable = some (excClassObj (Str.ofString "BadTable") q_BadTable C_BadTable N_BadTable bs_BadTable [.ref C_GridError, .type "Exception", .type "BaseException", .type "object"] hd_BadTable sn_BadTable sub_BadTable ab_BadTable col_BadTable dd_BadTable k0_BadTable k1_BadTable k2_BadTable k3_BadTable k5_BadTable nid_BadTable))
    (ga_BadTable : PySem.W.findIn K (.ref C_BadTable) "__getattribute__" = some (some (.builtin "BaseException.__getattribute__")))
    (gg_BadTable : PySem.W.findIn K (.ref C_BadTable) "__getattr__" = some none)
    (ca_BadTable : PySem.W.findIn K (.ref C_BadTable) "__class__" = some (some (.builtin "object.__class__")))
    (kC_BadTable : PySem.W.keepIn K (.ref C_BadTable) = true)
    (q0_BadTable : PySem.W.excIn K C_BadTable [.type "Exception", .type "BaseException", .type "object"] "Exception.__new__" = true)
    (a_BadSides : PySem.W.nsIn K mainGlobals "BadSides" = some (some (.ref C_BadSides)))
    (xL_BadSides : K.lookup C_BadSides = some (excClassObj (Str.ofString "BadSides") q_BadSides C_BadSides N_BadSides bs_BadSides [.ref C_GridError, .type "Exception", .type "BaseException", .type "object"] hd_BadSides sn_BadSides sub_BadSides ab_BadSides col_BadSides dd_BadSides k0_BadSides k1_BadSides k2_BadSides k3_BadSides k5_BadSides nid_BadSides))
    (ga_BadSides : PySem.W.findIn K (.ref C_BadSides) "__getattribute__" = some (some (.builtin "BaseException.__getattribute__")))
    (gg_BadSides : PySem.W.findIn K (.ref C_BadSides) "__getattr__" = some none)
    (ca_BadSides : PySem.W.findIn K (.ref C_BadSides) "__class__" = some (some (.builtin "object.__class__")))
    (kC_BadSides : PySem.W.keepIn K (.ref C_BadSides) = true)
    (q0_BadSides : PySem.W.excIn K C_BadSides [.type "Exception", .type "BaseException", .type "object"] "Exception.__new__" = true)
    (a_BadBody : PySem.W.nsIn K mainGlobals "BadBody" = some (some (.ref C_BadBody)))
    (xL_BadBody : K.lookup C_BadBody = some (excClassObj (Str.ofString "BadBody") q_BadBody C_BadBody N_BadBody bs_BadBody [.ref C_GridError, .type "Exception", .type "BaseException", .type "object"] hd_BadBody sn_BadBody sub_BadBody ab_BadBody col_BadBody dd_BadBody k0_BadBody k1_BadBody k2_BadBody k3_BadBody k5_BadBody nid_BadBody))
    (ga_BadBody : PySem.W.findIn K (.ref C_BadBody) "__getattribute__" = some (some (.builtin "BaseException.__getattribute__")))
    (gg_BadBody : PySem.W.findIn K (.ref C_BadBody) "__getattr__" = some none)
    (ca_BadBody : PySem.W.findIn K (.ref C_BadBody) "__class__" = some (some (.builtin "object.__class__")))
    (kC_BadBody : PySem.W.keepIn K (.ref C_BadBody) = true)
    (q0_BadBody : PySem.W.excIn K C_BadBody [.type "Exception", .type "BaseException", .type "object"] "Exception.__new__" = true)
    (a_BadForm : PySem.W.nsIn K mainGlobals "BadForm" = some (some (.ref C_BadForm)))
    (xL_BadForm : K.lookup C_BadForm = some (excClassObj (Str.ofString "BadForm") q_BadForm C_BadForm N_BadForm bs_BadForm [.ref C_GridError, .type "Exception", .type "BaseException", .type "object"] hd_BadForm sn_BadForm sub_BadForm ab_BadForm col_BadForm dd_BadForm k0_BadForm k1_BadForm k2_BadForm k3_BadForm k5_BadForm nid_BadForm))
    (ga_BadForm : PySem.W.findIn K (.ref C_BadForm) "__getattribute__" = some (some (.builtin "BaseException.__getattribute__")))
    (gg_BadForm : PySem.W.findIn K (.ref C_BadForm) "__getattr__" = some none)
    (ca_BadForm : PySem.W.findIn K (.ref C_BadForm) "__class__" = some (some (.builtin "object.__class__")))
    (kC_BadForm : PySem.W.keepIn K (.ref C_BadForm) = true)
    (q0_BadForm : PySem.W.excIn K C_BadForm [.type "Exception", .type "BaseException", .type "object"] "Exception.__new__" = true)
    (a_BadCoins : PySem.W.nsIn K mainGlobals "BadCoins" = some (some (.ref C_BadCoins)))
    (xL_BadCoins : K.lookup C_BadCoins = some (excClassObj (Str.ofString "BadCoins") q_BadCoins C_BadCoins N_BadCoins bs_BadCoins [.ref C_GridError, .type "Exception", .type "BaseException", .type "object"] hd_BadCoins sn_BadCoins sub_BadCoins ab_BadCoins col_BadCoins dd_BadCoins k0_BadCoins k1_BadCoins k2_BadCoins k3_BadCoins k5_BadCoins nid_BadCoins))
    (ga_BadCoins : PySem.W.findIn K (.ref C_BadCoins) "__getattribute__" = some (some (.builtin "BaseException.__getattribute__")))
    (gg_BadCoins : PySem.W.findIn K (.ref C_BadCoins) "__getattr__" = some none)
    (ca_BadCoins : PySem.W.findIn K (.ref C_BadCoins) "__class__" = some (some (.builtin "object.__class__")))
    (kC_BadCoins : PySem.W.keepIn K (.ref C_BadCoins) = true)
    (q0_BadCoins : PySem.W.excIn K C_BadCoins [.type "Exception", .type "BaseException", .type "object"] "Exception.__new__" = true)
    (a_BadPlace : PySem.W.nsIn K mainGlobals "BadPlace" = some (some (.ref C_BadPlace)))
    (xL_BadPlace : K.lookup C_BadPlace = some (excClassObj (Str.ofString "BadPlace") q_BadPlace C_BadPlace N_BadPlace bs_BadPlace [.ref C_GridError, .type "Exception", .type "BaseException", .type "object"] hd_BadPlace sn_BadPlace sub_BadPlace ab_BadPlace col_BadPlace dd_BadPlace k0_BadPlace k1_BadPlace k2_BadPlace k3_BadPlace k5_BadPlace nid_BadPlace))
    (ga_BadPlace : PySem.W.findIn K (.ref C_BadPlace) "__getattribute__" = some (some (.builtin "BaseException.__getattribute__")))
    (gg_BadPlace : PySem.W.findIn K (.ref C_BadPlace) "__getattr__" = some none)
    (ca_BadPlace : PySem.W.findIn K (.ref C_BadPlace) "__class__" = some (some (.builtin "object.__class__")))
    (kC_BadPlace : PySem.W.keepIn K (.ref C_BadPlace) = true)
    (q0_BadPlace : PySem.W.excIn K C_BadPlace [.type "Exception", .type "BaseException", .type "object"] "Exception.__new__" = true)
    (a_BadDeed : PySem.W.nsIn K mainGlobals "BadDeed" = some (some (.ref C_BadDeed)))
    (xL_BadDeed : K.lookup C_BadDeed = some (excClassObj (Str.ofString "BadDeed") q_BadDeed C_BadDeed N_BadDeed bs_BadDeed [.ref C_GridError, .type "Exception", .type "BaseException", .type "object"] hd_BadDeed sn_BadDeed sub_BadDeed ab_BadDeed col_BadDeed dd_BadDeed k0_BadDeed k1_BadDeed k2_BadDeed k3_BadDeed k5_BadDeed nid_BadDeed))
    (ga_BadDeed : PySem.W.findIn K (.ref C_BadDeed) "__getattribute__" = some (some (.builtin "BaseException.__getattribute__")))
    (gg_BadDeed : PySem.W.findIn K (.ref C_BadDeed) "__getattr__" = some none)
    (ca_BadDeed : PySem.W.findIn K (.ref C_BadDeed) "__class__" = some (some (.builtin "object.__class__")))
    (kC_BadDeed : PySem.W.keepIn K (.ref C_BadDeed) = true)
    (q0_BadDeed : PySem.W.excIn K C_BadDeed [.type "Exception", .type "BaseException", .type "object"] "Exception.__new__" = true)
    (a_BadTree : PySem.W.nsIn K mainGlobals "BadTree" = some (some (.ref C_BadTree)))
    (xL_BadTree : K.lookup C_BadTree = some (excClassObj (Str.ofString "BadTree") q_BadTree C_BadTree N_BadTree bs_BadTree [.ref C_GridError, .type "Exception", .type "BaseException", .type "object"] hd_BadTree sn_BadTree sub_BadTree ab_BadTree col_BadTree dd_BadTree k0_BadTree k1_BadTree k2_BadTree k3_BadTree k5_BadTree nid_BadTree))
    (ga_BadTree : PySem.W.findIn K (.ref C_BadTree) "__getattribute__" = some (some (.builtin "BaseException.__getattribute__")))
    (gg_BadTree : PySem.W.findIn K (.ref C_BadTree) "__getattr__" = some none)
    (ca_BadTree : PySem.W.findIn K (.ref C_BadTree) "__class__" = some (some (.builtin "object.__class__")))
    (kC_BadTree : PySem.W.keepIn K (.ref C_BadTree) = true)
    (q0_BadTree : PySem.W.excIn K C_BadTree [.type "Exception", .type "BaseException", .type "object"] "Exception.__new__" = true)
    (a_NotUnimodular : PySem.W.nsIn K mainGlobals "NotUnimodular" = some (some (.ref C_NotUnimodular)))
    (xL_NotUnimodular : K.lookup C_NotUnimodular = some (excClassObj (Str.ofString "NotUnimodular") q_NotUnimodular C_NotUnimodular N_NotUnimodular bs_NotUnimodular [.ref C_GridError, .type "Exception", .type "BaseException", .type "object"] hd_NotUnimodular sn_NotUnimodular sub_NotUnimodular ab_NotUnimodular col_NotUnimodular dd_NotUnimodular k0_NotUnimodular k1_NotUnimodular k2_NotUnimodular k3_NotUnimodular k5_NotUnimodular nid_NotUnimodular))
    (ga_NotUnimodular : PySem.W.findIn K (.ref C_NotUnimodular) "__getattribute__" = some (some (.builtin "BaseException.__getattribute__")))
    (gg_NotUnimodular : PySem.W.findIn K (.ref C_NotUnimodular) "__getattr__" = some none)
    (ca_NotUnimodular : PySem.W.findIn K (.ref C_NotUnimodular) "__class__" = some (some (.builtin "object.__class__")))
    (kC_NotUnimodular : PySem.W.keepIn K (.ref C_NotUnimodular) = true)
    (q0_NotUnimodular : PySem.W.excIn K C_NotUnimodular [.type "Exception", .type "BaseException", .type "object"] "Exception.__new__" = true)
    (a_NoIndex : PySem.W.nsIn K mainGlobals "NoIndex" = some (some (.ref C_NoIndex)))
    (xL_NoIndex : K.lookup C_NoIndex = some (excClassObj (Str.ofString "NoIndex") q_NoIndex C_NoIndex N_NoIndex bs_NoIndex [.ref C_GridError, .type "Exception", .type "BaseException", .type "object"] hd_NoIndex sn_NoIndex sub_NoIndex ab_NoIndex col_NoIndex dd_NoIndex k0_NoIndex k1_NoIndex k2_NoIndex k3_NoIndex k5_NoIndex nid_NoIndex))
    (ga_NoIndex : PySem.W.findIn K (.ref C_NoIndex) "__getattribute__" = some (some (.builtin "BaseException.__getattribute__")))
    (gg_NoIndex : PySem.W.findIn K (.ref C_NoIndex) "__getattr__" = some none)
    (ca_NoIndex : PySem.W.findIn K (.ref C_NoIndex) "__class__" = some (some (.builtin "object.__class__")))
    (kC_NoIndex : PySem.W.keepIn K (.ref C_NoIndex) = true)
    (q0_NoIndex : PySem.W.excIn K C_NoIndex [.type "Exception", .type "BaseException", .type "object"] "Exception.__new__" = true)
    (a_NoCorners : PySem.W.nsIn K mainGlobals "NoCorners" = some (some (.ref C_NoCorners)))
    (xL_NoCorners : K.lookup C_NoCorners = some (excClassObj (Str.ofString "NoCorners") q_NoCorners C_NoCorners N_NoCorners bs_NoCorners [.ref C_GridError, .type "Exception", .type "BaseException", .type "object"] hd_NoCorners sn_NoCorners sub_NoCorners ab_NoCorners col_NoCorners dd_NoCorners k0_NoCorners k1_NoCorners k2_NoCorners k3_NoCorners k5_NoCorners nid_NoCorners))
    (ga_NoCorners : PySem.W.findIn K (.ref C_NoCorners) "__getattribute__" = some (some (.builtin "BaseException.__getattribute__")))
    (gg_NoCorners : PySem.W.findIn K (.ref C_NoCorners) "__getattr__" = some none)
    (ca_NoCorners : PySem.W.findIn K (.ref C_NoCorners) "__class__" = some (some (.builtin "object.__class__")))
    (kC_NoCorners : PySem.W.keepIn K (.ref C_NoCorners) = true)
    (q0_NoCorners : PySem.W.excIn K C_NoCorners [.type "Exception", .type "BaseException", .type "object"] "Exception.__new__" = true)
    (a_NotBounded : PySem.W.nsIn K mainGlobals "NotBounded" = some (some (.ref C_NotBounded)))
    (xL_NotBounded : K.lookup C_NotBounded = some (excClassObj (Str.ofString "NotBounded") q_NotBounded C_NotBounded N_NotBounded bs_NotBounded [.ref C_GridError, .type "Exception", .type "BaseException", .type "object"] hd_NotBounded sn_NotBounded sub_NotBounded ab_NotBounded col_NotBounded dd_NotBounded k0_NotBounded k1_NotBounded k2_NotBounded k3_NotBounded k5_NotBounded nid_NotBounded))
    (ga_NotBounded : PySem.W.findIn K (.ref C_NotBounded) "__getattribute__" = some (some (.builtin "BaseException.__getattribute__")))
    (gg_NotBounded : PySem.W.findIn K (.ref C_NotBounded) "__getattr__" = some none)
    (ca_NotBounded : PySem.W.findIn K (.ref C_NotBounded) "__class__" = some (some (.builtin "object.__class__")))
    (kC_NotBounded : PySem.W.keepIn K (.ref C_NotBounded) = true)
    (q0_NotBounded : PySem.W.excIn K C_NotBounded [.type "Exception", .type "BaseException", .type "object"] "Exception.__new__" = true)
    (a_NotPointed : PySem.W.nsIn K mainGlobals "NotPointed" = some (some (.ref C_NotPointed)))
    (xL_NotPointed : K.lookup C_NotPointed = some (excClassObj (Str.ofString "NotPointed") q_NotPointed C_NotPointed N_NotPointed bs_NotPointed [.ref C_GridError, .type "Exception", .type "BaseException", .type "object"] hd_NotPointed sn_NotPointed sub_NotPointed ab_NotPointed col_NotPointed dd_NotPointed k0_NotPointed k1_NotPointed k2_NotPointed k3_NotPointed k5_NotPointed nid_NotPointed))
    (ga_NotPointed : PySem.W.findIn K (.ref C_NotPointed) "__getattribute__" = some (some (.builtin "BaseException.__getattribute__")))
    (gg_NotPointed : PySem.W.findIn K (.ref C_NotPointed) "__getattr__" = some none)
    (ca_NotPointed : PySem.W.findIn K (.ref C_NotPointed) "__class__" = some (some (.builtin "object.__class__")))
    (kC_NotPointed : PySem.W.keepIn K (.ref C_NotPointed) = true)
    (q0_NotPointed : PySem.W.excIn K C_NotPointed [.type "Exception", .type "BaseException", .type "object"] "Exception.__new__" = true)
    (a_Dependent : PySem.W.nsIn K mainGlobals "Dependent" = some (some (.ref C_Dependent)))
    (xL_Dependent : K.lookup C_Dependent = some (excClassObj (Str.ofString "Dependent") q_Dependent C_Dependent N_Dependent bs_Dependent [.ref C_GridError, .type "Exception", .type "BaseException", .type "object"] hd_Dependent sn_Dependent sub_Dependent ab_Dependent col_Dependent dd_Dependent k0_Dependent k1_Dependent k2_Dependent k3_Dependent k5_Dependent nid_Dependent))
    (ga_Dependent : PySem.W.findIn K (.ref C_Dependent) "__getattribute__" = some (some (.builtin "BaseException.__getattribute__")))
    (gg_Dependent : PySem.W.findIn K (.ref C_Dependent) "__getattr__" = some none)
    (ca_Dependent : PySem.W.findIn K (.ref C_Dependent) "__class__" = some (some (.builtin "object.__class__")))
    (kC_Dependent : PySem.W.keepIn K (.ref C_Dependent) = true)
    (q0_Dependent : PySem.W.excIn K C_Dependent [.type "Exception", .type "BaseException", .type "object"] "Exception.__new__" = true)
    (a_NothingToUndo : PySem.W.nsIn K mainGlobals "NothingToUndo" = some (some (.ref C_NothingToUndo)))
    (xL_NothingToUndo : K.lookup C_NothingToUndo = some (excClassObj (Str.ofString "NothingToUndo") q_NothingToUndo C_NothingToUndo N_NothingToUndo bs_NothingToUndo [.ref C_GridError, .type "Exception", .type "BaseException", .type "object"] hd_NothingToUndo sn_NothingToUndo sub_NothingToUndo ab_NothingToUndo col_NothingToUndo dd_NothingToUndo k0_NothingToUndo k1_NothingToUndo k2_NothingToUndo k3_NothingToUndo k5_NothingToUndo nid_NothingToUndo))
    (ga_NothingToUndo : PySem.W.findIn K (.ref C_NothingToUndo) "__getattribute__" = some (some (.builtin "BaseException.__getattribute__")))
    (gg_NothingToUndo : PySem.W.findIn K (.ref C_NothingToUndo) "__getattr__" = some none)
    (ca_NothingToUndo : PySem.W.findIn K (.ref C_NothingToUndo) "__class__" = some (some (.builtin "object.__class__")))
    (kC_NothingToUndo : PySem.W.keepIn K (.ref C_NothingToUndo) = true)
    (q0_NothingToUndo : PySem.W.excIn K C_NothingToUndo [.type "Exception", .type "BaseException", .type "object"] "Exception.__new__" = true)
    (a_NothingToRedo : PySem.W.nsIn K mainGlobals "NothingToRedo" = some (some (.ref C_NothingToRedo)))
    (xL_NothingToRedo : K.lookup C_NothingToRedo = some (excClassObj (Str.ofString "NothingToRedo") q_NothingToRedo C_NothingToRedo N_NothingToRedo bs_NothingToRedo [.ref C_GridError, .type "Exception", .type "BaseException", .type "object"] hd_NothingToRedo sn_NothingToRedo sub_NothingToRedo ab_NothingToRedo col_NothingToRedo dd_NothingToRedo k0_NothingToRedo k1_NothingToRedo k2_NothingToRedo k3_NothingToRedo k5_NothingToRedo nid_NothingToRedo))
    (ga_NothingToRedo : PySem.W.findIn K (.ref C_NothingToRedo) "__getattribute__" = some (some (.builtin "BaseException.__getattribute__")))
    (gg_NothingToRedo : PySem.W.findIn K (.ref C_NothingToRedo) "__getattr__" = some none)
    (ca_NothingToRedo : PySem.W.findIn K (.ref C_NothingToRedo) "__class__" = some (some (.builtin "object.__class__")))
    (kC_NothingToRedo : PySem.W.keepIn K (.ref C_NothingToRedo) = true)
    (q0_NothingToRedo : PySem.W.excIn K C_NothingToRedo [.type "Exception", .type "BaseException", .type "object"] "Exception.__new__" = true)
    (a_BadNumber : PySem.W.nsIn K mainGlobals "BadNumber" = some (some (.ref C_BadNumber)))
    (xL_BadNumber : K.lookup C_BadNumber = some (excClassObj (Str.ofString "BadNumber") q_BadNumber C_BadNumber N_BadNumber bs_BadNumber [.ref C_GridError, .type "Exception", .type "BaseException", .type "object"] true sn_BadNumber sub_BadNumber ab_BadNumber col_BadNumber dd_BadNumber k0_BadNumber k1_BadNumber k2_BadNumber k3_BadNumber k5_BadNumber "Exception.__new__"))
    (ga_BadNumber : PySem.W.findIn K (.ref C_BadNumber) "__getattribute__" = some (some (.builtin "BaseException.__getattribute__")))
    (gg_BadNumber : PySem.W.findIn K (.ref C_BadNumber) "__getattr__" = some none)
    (ca_BadNumber : PySem.W.findIn K (.ref C_BadNumber) "__class__" = some (some (.builtin "object.__class__")))
    (kC_BadNumber : PySem.W.keepIn K (.ref C_BadNumber) = true)
    (a_TooMany : PySem.W.nsIn K mainGlobals "TooMany" = some (some (.ref C_TooMany)))
    (xL_TooMany : K.lookup C_TooMany = some (excClassObj (Str.ofString "TooMany") q_TooMany C_TooMany N_TooMany bs_TooMany [.ref C_GridError, .type "Exception", .type "BaseException", .type "object"] true sn_TooMany sub_TooMany ab_TooMany col_TooMany dd_TooMany k0_TooMany k1_TooMany k2_TooMany k3_TooMany k5_TooMany "Exception.__new__"))
    (ga_TooMany : PySem.W.findIn K (.ref C_TooMany) "__getattribute__" = some (some (.builtin "BaseException.__getattribute__")))
    (gg_TooMany : PySem.W.findIn K (.ref C_TooMany) "__getattr__" = some none)
    (ca_TooMany : PySem.W.findIn K (.ref C_TooMany) "__class__" = some (some (.builtin "object.__class__")))
    (kC_TooMany : PySem.W.keepIn K (.ref C_TooMany) = true)
    (a_BadEntry : PySem.W.nsIn K mainGlobals "BadEntry" = some (some (.ref C_BadEntry)))
    (xL_BadEntry : K.lookup C_BadEntry = some (excClassObj (Str.ofString "BadEntry") q_BadEntry C_BadEntry N_BadEntry bs_BadEntry [.ref C_GridError, .type "Exception", .type "BaseException", .type "object"] true sn_BadEntry sub_BadEntry ab_BadEntry col_BadEntry dd_BadEntry k0_BadEntry k1_BadEntry k2_BadEntry k3_BadEntry k5_BadEntry "Exception.__new__"))
    (ga_BadEntry : PySem.W.findIn K (.ref C_BadEntry) "__getattribute__" = some (some (.builtin "BaseException.__getattribute__")))
    (gg_BadEntry : PySem.W.findIn K (.ref C_BadEntry) "__getattr__" = some none)
    (ca_BadEntry : PySem.W.findIn K (.ref C_BadEntry) "__class__" = some (some (.builtin "object.__class__")))
    (kC_BadEntry : PySem.W.keepIn K (.ref C_BadEntry) = true)
    (a_BadText : PySem.W.nsIn K mainGlobals "BadText" = some (some (.ref C_BadText)))
    (xL_BadText : K.lookup C_BadText = some (excClassObj (Str.ofString "BadText") q_BadText C_BadText N_BadText bs_BadText [.ref C_GridError, .type "Exception", .type "BaseException", .type "object"] true sn_BadText sub_BadText ab_BadText col_BadText dd_BadText k0_BadText k1_BadText k2_BadText k3_BadText k5_BadText "Exception.__new__"))
    (ga_BadText : PySem.W.findIn K (.ref C_BadText) "__getattribute__" = some (some (.builtin "BaseException.__getattribute__")))
    (gg_BadText : PySem.W.findIn K (.ref C_BadText) "__getattr__" = some none)
    (ca_BadText : PySem.W.findIn K (.ref C_BadText) "__class__" = some (some (.builtin "object.__class__")))
    (kC_BadText : PySem.W.keepIn K (.ref C_BadText) = true)
    (fG : PySem.W.findIn K (.ref C_GridError) "__init__" = some (some (.builtin "Exception.__init__")))
    (sa_BadNumber : PySem.W.findIn K (.ref C_BadNumber) "__setattr__" = some (some (.builtin "object.__setattr__")))
    (nb_BadNumber_number : PySem.W.findIn K (.ref C_BadNumber) "number" = some none)
    (iC_BadNumber : PySem.W.findIn K (.ref C_BadNumber) "__init__" = some (some (.ref I_BadNumber)))
    (tI_BadNumber : PySem.W.typeIn K (.ref I_BadNumber) = some (.type "function"))
    (lI_BadNumber : K.lookup I_BadNumber = some ⟨oc_BadNumber, od_BadNumber, .func (PySem.W.ksFn "__init__" qual_BadNumber (EG.iA "number" ⟨38, 17, 38, 21⟩ ⟨38, 23, 38, 29⟩) (EG.iB "number" ⟨39, 8, 39, 13⟩ ⟨39, 8, 39, 15⟩ ⟨39, 8, 39, 24⟩ ⟨39, 25, 39, 31⟩ ⟨39, 8, 39, 32⟩ ⟨39, 8, 39, 32⟩ ⟨40, 8, 40, 12⟩ ⟨40, 8, 40, 19⟩ ⟨40, 22, 40, 28⟩ ⟨40, 8, 40, 28⟩) (EG.iS "number" ) .none .none doc_BadNumber pm_BadNumber an_BadNumber (.ref cda_BadNumber) ct_BadNumber cc_BadNumber), osl_BadNumber⟩)
    (cI_BadNumber : PySem.W.codeIn K (.ref cda_BadNumber) qual_BadNumber = true)
    (lcd_BadNumber : K.lookup cda_BadNumber = some ⟨ccl_BadNumber, cdd_BadNumber, .fields vs_BadNumber, ccs_BadNumber⟩)
    (hvs_BadNumber : vs_BadNumber[2]? = some (.str file_BadNumber tf_BadNumber))
    (hf_BadNumber : ((l.prog.main.file : Str) == file_BadNumber) = true)
    (lcc_BadNumber : K.lookup cc_BadNumber = some ⟨cl_BadNumber, cld_BadNumber, .cell (some (.ref C_BadNumber)), csl_BadNumber⟩)
    (hd0_BadNumber : PySem.W.hasDictIn K C_BadNumber = true)
    (sa_TooMany : PySem.W.findIn K (.ref C_TooMany) "__setattr__" = some (some (.builtin "object.__setattr__")))
    (nb_TooMany_bound : PySem.W.findIn K (.ref C_TooMany) "bound" = some none)
    (iC_TooMany : PySem.W.findIn K (.ref C_TooMany) "__init__" = some (some (.ref I_TooMany)))
    (tI_TooMany : PySem.W.typeIn K (.ref I_TooMany) = some (.type "function"))
    (lI_TooMany : K.lookup I_TooMany = some ⟨oc_TooMany, od_TooMany, .func (PySem.W.ksFn "__init__" qual_TooMany (EG.iA "bound" ⟨43, 17, 43, 21⟩ ⟨43, 23, 43, 28⟩) (EG.iB "bound" ⟨44, 8, 44, 13⟩ ⟨44, 8, 44, 15⟩ ⟨44, 8, 44, 24⟩ ⟨44, 25, 44, 30⟩ ⟨44, 8, 44, 31⟩ ⟨44, 8, 44, 31⟩ ⟨45, 8, 45, 12⟩ ⟨45, 8, 45, 18⟩ ⟨45, 21, 45, 26⟩ ⟨45, 8, 45, 26⟩) (EG.iS "bound" ) .none .none doc_TooMany pm_TooMany an_TooMany (.ref cda_TooMany) ct_TooMany cc_TooMany), osl_TooMany⟩)
    (cI_TooMany : PySem.W.codeIn K (.ref cda_TooMany) qual_TooMany = true)
    (lcd_TooMany : K.lookup cda_TooMany = some ⟨ccl_TooMany, cdd_TooMany, .fields vs_TooMany, ccs_TooMany⟩)
    (hvs_TooMany : vs_TooMany[2]? = some (.str file_TooMany tf_TooMany))
    (hf_TooMany : ((l.prog.main.file : Str) == file_TooMany) = true)
    (lcc_TooMany : K.lookup cc_TooMany = some ⟨cl_TooMany, cld_TooMany, .cell (some (.ref C_TooMany)), csl_TooMany⟩)
    (hd0_TooMany : PySem.W.hasDictIn K C_TooMany = true)
    (sa_BadEntry : PySem.W.findIn K (.ref C_BadEntry) "__setattr__" = some (some (.builtin "object.__setattr__")))
    (nb_BadEntry_place : PySem.W.findIn K (.ref C_BadEntry) "place" = some none)
    (iC_BadEntry : PySem.W.findIn K (.ref C_BadEntry) "__init__" = some (some (.ref I_BadEntry)))
    (tI_BadEntry : PySem.W.typeIn K (.ref I_BadEntry) = some (.type "function"))
    (lI_BadEntry : K.lookup I_BadEntry = some ⟨oc_BadEntry, od_BadEntry, .func (PySem.W.ksFn "__init__" qual_BadEntry (EG.iA "place" ⟨48, 17, 48, 21⟩ ⟨48, 23, 48, 28⟩) (EG.iB "place" ⟨49, 8, 49, 13⟩ ⟨49, 8, 49, 15⟩ ⟨49, 8, 49, 24⟩ ⟨49, 25, 49, 30⟩ ⟨49, 8, 49, 31⟩ ⟨49, 8, 49, 31⟩ ⟨50, 8, 50, 12⟩ ⟨50, 8, 50, 18⟩ ⟨50, 21, 50, 26⟩ ⟨50, 8, 50, 26⟩) (EG.iS "place" ) .none .none doc_BadEntry pm_BadEntry an_BadEntry (.ref cda_BadEntry) ct_BadEntry cc_BadEntry), osl_BadEntry⟩)
    (cI_BadEntry : PySem.W.codeIn K (.ref cda_BadEntry) qual_BadEntry = true)
    (lcd_BadEntry : K.lookup cda_BadEntry = some ⟨ccl_BadEntry, cdd_BadEntry, .fields vs_BadEntry, ccs_BadEntry⟩)
    (hvs_BadEntry : vs_BadEntry[2]? = some (.str file_BadEntry tf_BadEntry))
    (hf_BadEntry : ((l.prog.main.file : Str) == file_BadEntry) = true)
    (lcc_BadEntry : K.lookup cc_BadEntry = some ⟨cl_BadEntry, cld_BadEntry, .cell (some (.ref C_BadEntry)), csl_BadEntry⟩)
    (hd0_BadEntry : PySem.W.hasDictIn K C_BadEntry = true)
    (sa_BadText : PySem.W.findIn K (.ref C_BadText) "__setattr__" = some (some (.builtin "object.__setattr__")))
    (nb_BadText_line : PySem.W.findIn K (.ref C_BadText) "line" = some none)
    (nb_BadText_column : PySem.W.findIn K (.ref C_BadText) "column" = some none)
    (iC_BadText : PySem.W.findIn K (.ref C_BadText) "__init__" = some (some (.ref I_BadText)))
    (tI_BadText : PySem.W.typeIn K (.ref I_BadText) = some (.type "function"))
    (lI_BadText : K.lookup I_BadText = some ⟨oc_BadText, od_BadText, .func (PySem.W.ksFn "__init__" qual_BadText (ET.iA ⟨53, 17, 53, 21⟩ ⟨53, 23, 53, 27⟩ ⟨53, 29, 53, 35⟩) (ET.iB ⟨54, 8, 54, 13⟩ ⟨54, 8, 54, 15⟩ ⟨54, 8, 54, 24⟩ ⟨54, 25, 54, 29⟩ ⟨54, 31, 54, 37⟩ ⟨54, 8, 54, 38⟩ ⟨54, 8, 54, 38⟩ ⟨55, 8, 55, 12⟩ ⟨55, 8, 55, 17⟩ ⟨55, 20, 55, 24⟩ ⟨55, 8, 55, 24⟩ ⟨56, 8, 56, 12⟩ ⟨56, 8, 56, 19⟩ ⟨56, 22, 56, 28⟩ ⟨56, 8, 56, 28⟩) ET.iS .none .none doc_BadText pm_BadText an_BadText (.ref cda_BadText) ct_BadText cc_BadText), osl_BadText⟩)
    (cI_BadText : PySem.W.codeIn K (.ref cda_BadText) qual_BadText = true)
    (lcd_BadText : K.lookup cda_BadText = some ⟨ccl_BadText, cdd_BadText, .fields vs_BadText, ccs_BadText⟩)
    (hvs_BadText : vs_BadText[2]? = some (.str file_BadText tf_BadText))
    (hf_BadText : ((l.prog.main.file : Str) == file_BadText) = true)
    (lcc_BadText : K.lookup cc_BadText = some ⟨cl_BadText, cld_BadText, .cell (some (.ref C_BadText)), csl_BadText⟩)
    (hd0_BadText : PySem.W.hasDictIn K C_BadText = true)
    (hn_ : PySem.W.specialIn K (.builtin "object.__class__") "__get__" = some (some (.builtin "getset_descriptor.__get__")))
    (ht_ : PySem.W.takesIn K (.builtin "object.__class__") = some true) (hlaw : ∀ ns : List Int, ns.length ≤ 63 → m_law [.scr ns] = some (.ok (.bl true), [])) :
    ∃ fd : FuncData, (∀ (s : Shared) (v : Value), BindsTo s fd ⟨[v], []⟩ [("script", v)]) ∧ ∀ base : Heap, K.In base → base.Ns mainGlobals mg → FnOk l.prog w K mg base CX0 4 fa fd ["script"] (spLaw K) := by
  have e := hfa.symm.trans (PySem.W.mg_of X G a14)
  cases e
  refine ⟨PySem.W.fnOf "law" "law" (defArgs s_law) (defBody s_law) (defScope s_law) .none kV14 dc14 pm14 an14 cd14 ct14, fun s v => .of_eq rfl, fun base _ _ => ?_⟩
  obtain ⟨ca, hca0, hca1, hca2, hca3, hca4, hca5, hca6, hca7, hca8, hca9, hca10, hca11, hca12, hca13, hca14, hca15, hca16, hca17, hca18, hca19, hca20⟩ : ∃ ca : String → Addr, ca "GridError" = C_GridError ∧ ca "BadTable" = C_BadTable ∧ ca "BadSides" = C_BadSides ∧ ca "BadBody" = C_BadBody ∧ ca "BadForm" = C_BadForm ∧ ca "BadCoins" = C_BadCoins ∧ ca "BadPlace" = C_BadPlace ∧ ca "BadDeed" = C_BadDeed ∧ ca "BadTree" = C_BadTree ∧ ca "NotUnimodular" = C_NotUnimodular ∧ ca "NoIndex" = C_NoIndex ∧ ca "NoCorners" = C_NoCorners ∧ ca "NotBounded" = C_NotBounded ∧ ca "NotPointed" = C_NotPointed ∧ ca "Dependent" = C_Dependent ∧ ca "NothingToUndo" = C_NothingToUndo ∧ ca "NothingToRedo" = C_NothingToRedo ∧ ca "BadNumber" = C_BadNumber ∧ ca "TooMany" = C_TooMany ∧ ca "BadEntry" = C_BadEntry ∧ ca "BadText" = C_BadText := ⟨fun s => if s = "GridError" then C_GridError else if s = "BadTable" then C_BadTable else if s = "BadSides" then C_BadSides else if s = "BadBody" then C_BadBody else if s = "BadForm" then C_BadForm else if s = "BadCoins" then C_BadCoins else if s = "BadPlace" then C_BadPlace else if s = "BadDeed" then C_BadDeed else if s = "BadTree" then C_BadTree else if s = "NotUnimodular" then C_NotUnimodular else if s = "NoIndex" then C_NoIndex else if s = "NoCorners" then C_NoCorners else if s = "NotBounded" then C_NotBounded else if s = "NotPointed" then C_NotPointed else if s = "Dependent" then C_Dependent else if s = "NothingToUndo" then C_NothingToUndo else if s = "NothingToRedo" then C_NothingToRedo else if s = "BadNumber" then C_BadNumber else if s = "TooMany" then C_TooMany else if s = "BadEntry" then C_BadEntry else if s = "BadText" then C_BadText else 0, by simp, by simp, by simp, by simp, by simp, by simp, by simp, by simp, by simp, by simp, by simp, by simp, by simp, by simp, by simp, by simp, by simp, by simp, by simp, by simp, by simp⟩
  subst hca0
  subst hca1
  subst hca2
  subst hca3
  subst hca4
  subst hca5
  subst hca6
  subst hca7
  subst hca8
  subst hca9
  subst hca10
  subst hca11
  subst hca12
  subst hca13
  subst hca14
  subst hca15
  subst hca16
  subst hca17
  subst hca18
  subst hca19
  subst hca20
  have n_int := PySem.W.mg_none_of X G z_int
  have n_range := PySem.W.mg_none_of X G z_range
  have n_len := PySem.W.mg_none_of X G z_len
  have n_isinstance := PySem.W.mg_none_of X G z_isinstance
  have n_ValueError := PySem.W.mg_none_of X G z_ValueError
  have n_LookupError := PySem.W.mg_none_of X G z_LookupError
  have n_ArithmeticError := PySem.W.mg_none_of X G z_ArithmeticError
  have n_TypeError := PySem.W.mg_none_of X G z_TypeError
  have n_RuntimeError := PySem.W.mg_none_of X G z_RuntimeError
  have n_bool := PySem.W.mg_none_of X G z_bool
  have n_any := PySem.W.mg_none_of X G z_any
  have n_zip := PySem.W.mg_none_of X G z_zip
  have n_all := PySem.W.mg_none_of X G z_all
  have n_Exception := PySem.W.mg_none_of X G z_Exception
  have g_GridError := PySem.W.mg_of X G a_GridError
  have g_BadTable := PySem.W.mg_of X G a_BadTable
  have g_BadSides := PySem.W.mg_of X G a_BadSides
  have g_BadBody := PySem.W.mg_of X G a_BadBody
  have g_BadForm := PySem.W.mg_of X G a_BadForm
  have g_BadCoins := PySem.W.mg_of X G a_BadCoins
  have g_BadPlace := PySem.W.mg_of X G a_BadPlace
  have g_BadDeed := PySem.W.mg_of X G a_BadDeed
  have g_BadTree := PySem.W.mg_of X G a_BadTree
  have g_NotUnimodular := PySem.W.mg_of X G a_NotUnimodular
  have g_NoIndex := PySem.W.mg_of X G a_NoIndex
  have g_NoCorners := PySem.W.mg_of X G a_NoCorners
  have g_NotBounded := PySem.W.mg_of X G a_NotBounded
  have g_NotPointed := PySem.W.mg_of X G a_NotPointed
  have g_Dependent := PySem.W.mg_of X G a_Dependent
  have g_NothingToUndo := PySem.W.mg_of X G a_NothingToUndo
  have g_NothingToRedo := PySem.W.mg_of X G a_NothingToRedo
  have g_BadNumber := PySem.W.mg_of X G a_BadNumber
  have g_TooMany := PySem.W.mg_of X G a_TooMany
  have g_BadEntry := PySem.W.mg_of X G a_BadEntry
  have g_BadText := PySem.W.mg_of X G a_BadText
  have kx_GridError : Kx K (ca "GridError") "GridError" (ca "GridError") := kx_base a_GridError xL_GridError ga_GridError gg_GridError ca_GridError
  have kx_BadTable : Kx K (ca "GridError") "BadTable" (ca "BadTable") := kx_of (by decide) a_BadTable xL_BadTable ga_BadTable gg_BadTable ca_BadTable
  have kx_BadSides : Kx K (ca "GridError") "BadSides" (ca "BadSides") := kx_of (by decide) a_BadSides xL_BadSides ga_BadSides gg_BadSides ca_BadSides
  have kx_BadBody : Kx K (ca "GridError") "BadBody" (ca "BadBody") := kx_of (by decide) a_BadBody xL_BadBody ga_BadBody gg_BadBody ca_BadBody
  have kx_BadForm : Kx K (ca "GridError") "BadForm" (ca "BadForm") := kx_of (by decide) a_BadForm xL_BadForm ga_BadForm gg_BadForm ca_BadForm
  have kx_BadCoins : Kx K (ca "GridError") "BadCoins" (ca "BadCoins") := kx_of (by decide) a_BadCoins xL_BadCoins ga_BadCoins gg_BadCoins ca_BadCoins
  have kx_BadPlace : Kx K (ca "GridError") "BadPlace" (ca "BadPlace") := kx_of (by decide) a_BadPlace xL_BadPlace ga_BadPlace gg_BadPlace ca_BadPlace
  have kx_BadDeed : Kx K (ca "GridError") "BadDeed" (ca "BadDeed") := kx_of (by decide) a_BadDeed xL_BadDeed ga_BadDeed gg_BadDeed ca_BadDeed
  have kx_BadTree : Kx K (ca "GridError") "BadTree" (ca "BadTree") := kx_of (by decide) a_BadTree xL_BadTree ga_BadTree gg_BadTree ca_BadTree
  have kx_NotUnimodular : Kx K (ca "GridError") "NotUnimodular" (ca "NotUnimodular") := kx_of (by decide) a_NotUnimodular xL_NotUnimodular ga_NotUnimodular gg_NotUnimodular ca_NotUnimodular
  have kx_NoIndex : Kx K (ca "GridError") "NoIndex" (ca "NoIndex") := kx_of (by decide) a_NoIndex xL_NoIndex ga_NoIndex gg_NoIndex ca_NoIndex
  have kx_NoCorners : Kx K (ca "GridError") "NoCorners" (ca "NoCorners") := kx_of (by decide) a_NoCorners xL_NoCorners ga_NoCorners gg_NoCorners ca_NoCorners
  have kx_NotBounded : Kx K (ca "GridError") "NotBounded" (ca "NotBounded") := kx_of (by decide) a_NotBounded xL_NotBounded ga_NotBounded gg_NotBounded ca_NotBounded
  have kx_NotPointed : Kx K (ca "GridError") "NotPointed" (ca "NotPointed") := kx_of (by decide) a_NotPointed xL_NotPointed ga_NotPointed gg_NotPointed ca_NotPointed
  have kx_Dependent : Kx K (ca "GridError") "Dependent" (ca "Dependent") := kx_of (by decide) a_Dependent xL_Dependent ga_Dependent gg_Dependent ca_Dependent
  have kx_NothingToUndo : Kx K (ca "GridError") "NothingToUndo" (ca "NothingToUndo") := kx_of (by decide) a_NothingToUndo xL_NothingToUndo ga_NothingToUndo gg_NothingToUndo ca_NothingToUndo
  have kx_NothingToRedo : Kx K (ca "GridError") "NothingToRedo" (ca "NothingToRedo") := kx_of (by decide) a_NothingToRedo xL_NothingToRedo ga_NothingToRedo gg_NothingToRedo ca_NothingToRedo
  have kx_BadNumber : Kx K (ca "GridError") "BadNumber" (ca "BadNumber") := kx_of (by decide) a_BadNumber xL_BadNumber ga_BadNumber gg_BadNumber ca_BadNumber
  have kx_TooMany : Kx K (ca "GridError") "TooMany" (ca "TooMany") := kx_of (by decide) a_TooMany xL_TooMany ga_TooMany gg_TooMany ca_TooMany
  have kx_BadEntry : Kx K (ca "GridError") "BadEntry" (ca "BadEntry") := kx_of (by decide) a_BadEntry xL_BadEntry ga_BadEntry gg_BadEntry ca_BadEntry
  have kx_BadText : Kx K (ca "GridError") "BadText" (ca "BadText") := kx_of (by decide) a_BadText xL_BadText ga_BadText gg_BadText ca_BadText
  have XS : Kxs K ca exNames := by
    refine ⟨fun n hn => ?_, by decide, ex_inj, hn_, ht_⟩
    simp only [exNames, List.mem_cons, List.not_mem_nil, or_false] at hn
    rcases hn with rfl | rfl | rfl | rfl | rfl | rfl | rfl | rfl | rfl | rfl | rfl | rfl | rfl | rfl | rfl | rfl | rfl | rfl | rfl | rfl | rfl
    · exact kx_GridError
    · exact kx_BadTable
    · exact kx_BadSides
    · exact kx_BadBody
    · exact kx_BadForm
    · exact kx_BadCoins
    · exact kx_BadPlace
    · exact kx_BadDeed
    · exact kx_BadTree
    · exact kx_NotUnimodular
    · exact kx_NoIndex
    · exact kx_NoCorners
    · exact kx_NotBounded
    · exact kx_NotPointed
    · exact kx_Dependent
    · exact kx_NothingToUndo
    · exact kx_NothingToRedo
    · exact kx_BadNumber
    · exact kx_TooMany
    · exact kx_BadEntry
    · exact kx_BadText
  have XF : Kfs K ca exPairs := by
    refine ⟨fun p hp => ?_, fun p hp => ?_⟩
    · simp only [exPairs, List.mem_cons, List.not_mem_nil, or_false] at hp
      rcases hp with rfl | rfl | rfl | rfl | rfl
      · exact hd0_BadNumber
      · exact hd0_TooMany
      · exact hd0_BadEntry
      · exact hd0_BadText
      · exact hd0_BadText
    · simp only [exPairs, List.mem_cons, List.not_mem_nil, or_false] at hp
      rcases hp with rfl | rfl | rfl | rfl | rfl
      · exact nb_BadNumber_number
      · exact nb_TooMany_bound
      · exact nb_BadEntry_place
      · exact nb_BadText_line
      · exact nb_BadText_column
  have T_BadNumber : EG.GTxt l.prog K mg "number" "BadNumber" (ca "BadNumber") (ca "GridError") I_BadNumber := gtxt_of X G a_BadNumber xL_BadNumber xL_GridError fG sa_BadNumber nb_BadNumber_number iC_BadNumber tI_BadNumber kC_BadNumber kx_BadNumber.exc kx_BadNumber.typ lI_BadNumber cI_BadNumber ⟨_, fun _ => rfl⟩ lcd_BadNumber hvs_BadNumber hf_BadNumber lcc_BadNumber z_super z_top z_opq
  have T_TooMany : EG.GTxt l.prog K mg "bound" "TooMany" (ca "TooMany") (ca "GridError") I_TooMany := gtxt_of X G a_TooMany xL_TooMany xL_GridError fG sa_TooMany nb_TooMany_bound iC_TooMany tI_TooMany kC_TooMany kx_TooMany.exc kx_TooMany.typ lI_TooMany cI_TooMany ⟨_, fun _ => rfl⟩ lcd_TooMany hvs_TooMany hf_TooMany lcc_TooMany z_super z_top z_opq
  have T_BadEntry : EG.GTxt l.prog K mg "place" "BadEntry" (ca "BadEntry") (ca "GridError") I_BadEntry := gtxt_of X G a_BadEntry xL_BadEntry xL_GridError fG sa_BadEntry nb_BadEntry_place iC_BadEntry tI_BadEntry kC_BadEntry kx_BadEntry.exc kx_BadEntry.typ lI_BadEntry cI_BadEntry ⟨_, fun _ => rfl⟩ lcd_BadEntry hvs_BadEntry hf_BadEntry lcc_BadEntry z_super z_top z_opq
  have al_BadText : PySem.W.alongIn K "__init__" (EG.up (ca "GridError")) = some (some (.builtin "Exception.__init__")) := by
    unfold PySem.W.findIn at fG
    dsimp only at fG
    rw [xL_GridError] at fG
    exact fG
  have T_BadText : ET.TTxt l.prog K mg (ca "BadText") (ca "GridError") I_BadText :=
    { gC := g_BadText, cls := ⟨_, _, _, _, _, _, _, _, _, _, _, _, _, _, xL_BadText⟩, sa := sa_BadText, noL := nb_BadText_line, noC := nb_BadText_column, iC := iC_BadText, tC := tI_BadText, kC := kC_BadText, exC := kx_BadText.exc, tyC := kx_BadText.typ, al := al_BadText,
      fn := ⟨_, _, _, _, _, _, _, _, _, _, _, _, _, _, _, _, _, _, _, _, _, _, _, _, _, _, _, _, lI_BadText, cI_BadText, ⟨_, fun _ => rfl⟩, ⟨_, _, _, _, _, _, lcd_BadText, hvs_BadText, hf_BadText⟩, ⟨_, _, _, lcc_BadText⟩⟩, sup := PySem.W.mg_none_of X G z_super, top := z_top, opq := z_opq }
  have MM : ∀ n ∈ ["BadSides", "NotBounded", "NothingToRedo", "BadTree"], mg (Str.ofString n) = some (.ref (ca n)) ∧ PySem.W.excIn K (ca n) [.type "Exception", .type "BaseException", .type "object"] "Exception.__new__" = true ∧ PySem.W.keepIn K (.ref (ca n)) = true := by
    intro n hn
    simp only [List.mem_cons, List.not_mem_nil, or_false] at hn
    rcases hn with rfl | rfl | rfl | rfl
    · exact ⟨g_BadSides, q0_BadSides, kC_BadSides⟩
    · exact ⟨g_NotBounded, q0_NotBounded, kC_NotBounded⟩
    · exact ⟨g_NothingToRedo, q0_NothingToRedo, kC_NothingToRedo⟩
    · exact ⟨g_BadTree, q0_BadTree, kC_BadTree⟩
  have F1 := fun_mk (st := s__law_pool) l1 c1 k1
  have b1 := F1.binds (ps := ["script"]) fun _ _ _ _ _ _ us hl => match us, hl with | [_], _ => rfl
  have c__law_pool : Cal l.prog w K mg base CX0 "_law_pool" 1 ["script"] (spV K ca [false] true m__law_pool) := ⟨_, _, ok__law_pool (ca := ca) F1 n_int n_range, b1, PySem.W.mg_of X G a1, k1⟩
  have F2 := fun_mk (st := s__law_stream) l2 c2 k2
  have b2 := F2.binds (ps := ["script"]) fun _ _ _ _ _ _ us hl => match us, hl with | [_], _ => rfl
  have c__law_stream : Cal l.prog w K mg base CX0 "_law_stream" 2 ["script"] (spV K ca [false] true m__law_stream) := ⟨_, _, ok__law_stream (ca := ca) F2 c__law_pool, b2, PySem.W.mg_of X G a2, k2⟩
  have F3 := fun_mk (st := s__law_pick) l3 c3 k3
  have b3 := F3.binds (ps := ["pool", "many"]) fun _ _ _ _ _ _ us hl => match us, hl with | [_, _], _ => rfl
  have c__law_pick : Cal l.prog w K mg base CX0 "_law_pick" 1 ["pool", "many"] (spV K ca [true, false] true m__law_pick) := ⟨_, _, ok__law_pick (ca := ca) F3 n_len n_int, b3, PySem.W.mg_of X G a3, k3⟩
  have F4 := fun_mk (st := s__law_within) l4 c4 k4
  have b4 := F4.binds (ps := ["pool", "low", "high"]) fun _ _ _ _ _ _ us hl => match us, hl with | [_, _, _], _ => rfl
  have c__law_within : Cal l.prog w K mg base CX0 "_law_within" 2 ["pool", "low", "high"] (spV K ca [true, false, false] true m__law_within) := ⟨_, _, ok__law_within (ca := ca) F4 n_range n_int c__law_pick, b4, PySem.W.mg_of X G a4, k4⟩
  have F5 := fun_mk (st := s__law_made) l5 c5 k5
  have b5 := F5.binds (ps := ["fields"]) fun _ _ _ _ _ _ us hl => match us, hl with | [_], _ => rfl
  have c__law_made : Cal l.prog w K mg base CX0 "_law_made" 1 ["fields"] (spV K ca [false] false m__law_made) := ⟨_, _, ok__law_made (ca := ca) F5 T_BadNumber fok_number T_TooMany fok_bound T_BadEntry fok_place T_BadText g_BadBody g_BadCoins g_BadDeed g_BadForm g_BadPlace g_BadSides g_BadTable g_BadTree g_Dependent g_NoCorners g_NoIndex g_NotBounded g_NotPointed g_NotUnimodular g_NothingToRedo g_NothingToUndo q0_BadTable kC_BadTable q0_BadSides kC_BadSides q0_BadBody kC_BadBody q0_BadForm kC_BadForm q0_BadCoins kC_BadCoins q0_BadPlace kC_BadPlace q0_BadDeed kC_BadDeed q0_BadTree kC_BadTree q0_NotUnimodular kC_NotUnimodular q0_NoIndex kC_NoIndex q0_NoCorners kC_NoCorners q0_NotBounded kC_NotBounded q0_NotPointed kC_NotPointed q0_Dependent kC_Dependent q0_NothingToUndo kC_NothingToUndo q0_NothingToRedo kC_NothingToRedo XS XF, b5, PySem.W.mg_of X G a5, k5⟩
  have F6 := fun_mk (st := s__law_kinds) l6 c6 k6
  have b6 := F6.binds (ps := ["error"]) fun _ _ _ _ _ _ us hl => match us, hl with | [_], _ => rfl
  have c__law_kinds : Cal l.prog w K mg base CX0 "_law_kinds" 1 ["error"] (spV K ca [false] true m__law_kinds) := ⟨_, _, ok__law_kinds (ca := ca) F6 n_isinstance g_BadBody g_BadCoins g_BadDeed g_BadEntry g_BadForm g_BadNumber g_BadPlace g_BadSides g_BadTable g_BadText g_BadTree g_Dependent g_NoCorners g_NoIndex g_NotBounded g_NotPointed g_NotUnimodular g_NothingToRedo g_NothingToUndo g_TooMany XS XF, b6, PySem.W.mg_of X G a6, k6⟩
  have F7 := fun_mk (st := s__law_narrower) l7 c7 k7
  have b7 := F7.binds (ps := ["error"]) fun _ _ _ _ _ _ us hl => match us, hl with | [_], _ => rfl
  have c__law_narrower : Cal l.prog w K mg base CX0 "_law_narrower" 1 ["error"] (spV K ca [false] true m__law_narrower) := ⟨_, _, ok__law_narrower (ca := ca) F7 n_isinstance n_ValueError n_LookupError n_ArithmeticError n_TypeError n_RuntimeError XS XF, b7, PySem.W.mg_of X G a7, k7⟩
  have F8 := fun_mk (st := s__law_fields) l8 c8 k8
  have b8 := F8.binds (ps := ["errors"]) fun _ _ _ _ _ _ us hl => match us, hl with | [_], _ => rfl
  have c__law_fields : Cal l.prog w K mg base CX0 "_law_fields" 1 ["errors"] (spV K ca [false] true m__law_fields) := ⟨_, _, ok__law_fields (ca := ca) F8 XS XF, b8, PySem.W.mg_of X G a8, k8⟩
  have F9 := fun_mk (st := s__law_drawn) l9 c9 k9
  have b9 := F9.binds (ps := ["pool"]) fun _ _ _ _ _ _ us hl => match us, hl with | [_], _ => rfl
  have c__law_drawn : Cal l.prog w K mg base CX0 "_law_drawn" 3 ["pool"] (spV K ca [true] true m__law_drawn) := ⟨_, _, ok__law_drawn (ca := ca) F9 c__law_within c__law_pick, b9, PySem.W.mg_of X G a9, k9⟩
  have F10 := fun_mk (st := s__law_number_raised) l10 c10 k10
  have b10 := F10.binds (ps := ["number"]) fun _ _ _ _ _ _ us hl => match us, hl with | [_], _ => rfl
  have c__law_number_raised : Cal l.prog w K mg base CX0 "_law_number_raised" 1 ["number"] (spV K ca [false] true m__law_number_raised) := ⟨_, _, ok__law_number_raised (ca := ca) F10 T_BadNumber g_BadTable g_BadNumber XS XF, b10, PySem.W.mg_of X G a10, k10⟩
  have F11 := fun_mk (st := s__law_text_raised) l11 c11 k11
  have b11 := F11.binds (ps := ["line", "column"]) fun _ _ _ _ _ _ us hl => match us, hl with | [_, _], _ => rfl
  have c__law_text_raised : Cal l.prog w K mg base CX0 "_law_text_raised" 1 ["line", "column"] (spV K ca [false, false] true m__law_text_raised) := ⟨_, _, ok__law_text_raised (ca := ca) F11 T_BadText g_NotUnimodular g_BadText XS XF, b11, PySem.W.mg_of X G a11, k11⟩
  have F12 := fun_mk (st := s__law_under_the_base) l12 c12 k12
  have b12 := F12.binds (ps := ["place"]) fun _ _ _ _ _ _ us hl => match us, hl with | [_], _ => rfl
  have c__law_under_the_base : Cal l.prog w K mg base CX0 "_law_under_the_base" 1 ["place"] (spV K ca [false] true m__law_under_the_base) := ⟨_, _, ok__law_under_the_base (ca := ca) F12 g_BadTable g_NotPointed g_GridError MM XS, b12, PySem.W.mg_of X G a12, k12⟩
  have F13 := fun_mk (st := s__law_alike) l13 c13 k13
  have b13 := F13.binds (ps := ["told", "due"]) fun _ _ _ _ _ _ us hl => match us, hl with | [_, _], _ => rfl
  have c__law_alike : Cal l.prog w K mg base CX0 "_law_alike" 1 ["told", "due"] (spV K ca [false, false] true m__law_alike) := ⟨_, _, ok__law_alike (ca := ca) F13 n_len n_isinstance n_bool n_int n_any n_zip n_all, b13, PySem.W.mg_of X G a13, k13⟩
  have F14 := fun_mk (st := s_law) l14 c14 k14
  exact (ok_law (ca := ca) F14 n_range n_len n_isinstance n_Exception n_any c__law_stream c__law_drawn c__law_made c__law_narrower c__law_kinds c__law_number_raised c__law_alike c__law_pick c__law_under_the_base c__law_text_raised c__law_fields g_GridError q0_GridError kC_GridError XS XF).imp fun vs H Q E hq => spLaw_of hlaw hq
end Gk00
open PySem PySem.W PyProof.Rows
set_option maxHeartbeats 0 in
theorem PySem.Challenge.cw_gridhall_k00_errors_stand_apart_holds : PySem.Challenge.rw_gridhall_k00_errors_stand_apart.Holds := by
  w_on; o_law; k_head; (case hw => w_witness2)
  k_fill
  refine L2.walk_of (l := PySem.Challenge.rw_gridhall_k00_errors_stand_apart) (n := 63) (k := 4) (x := "script") (CX := fun _ => L2.CX0) (sp := fun w => Gk00.spLaw _) rfl (by decide) rfl ⟨rfl, by decide, by decide⟩ (fun w h Y => PySem.W.kIn_of Y) ?F (fun _ _ a ns hl _ hS => ⟨a, ns, rfl, hS, hl, fun _ => rfl⟩) (fun _ _ _ _ _ h => h)
  case F =>
    intro w mg fa h KX G hmg
    refine' Gk00.all_mk KX G hmg ?a1 ?l1 ?c1 ?k1 ?a2 ?l2 ?c2 ?k2 ?a3 ?l3 ?c3 ?k3 ?a4 ?l4 ?c4 ?k4 ?a5 ?l5 ?c5 ?k5 ?a6 ?l6 ?c6 ?k6 ?a7 ?l7 ?c7 ?k7 ?a8 ?l8 ?c8 ?k8 ?a9 ?l9 ?c9 ?k9 ?a10 ?l10 ?c10 ?k10 ?a11 ?l11 ?c11 ?k11 ?a12 ?l12 ?c12 ?k12 ?a13 ?l13 ?c13 ?k13 ?a14 ?l14 ?c14 ?k14 ?z_int ?z_range ?z_len ?z_isinstance ?z_ValueError ?z_LookupError ?z_ArithmeticError ?z_TypeError ?z_RuntimeError ?z_bool ?z_any ?z_zip ?z_all ?z_Exception ?z_super ?z_opq ?z_top ?a_GridError ?xL_GridError ?ga_GridError ?gg_GridError ?ca_GridError ?kC_GridError ?q0_GridError ?a_BadTable ?xL_BadTable ?ga_BadTable ?gg_BadTable ?ca_BadTable ?kC_BadTable ?q0_BadTable ?a_BadSides ?xL_BadSides ?ga_BadSides ?gg_BadSides ?ca_BadSides ?kC_BadSides ?q0_BadSides ?a_BadBody ?xL_BadBody ?ga_BadBody ?gg_BadBody ?ca_BadBody ?kC_BadBody ?q0_BadBody ?a_BadForm ?xL_BadForm ?ga_BadForm ?gg_BadForm ?ca_BadForm ?kC_BadForm ?q0_BadForm ?a_BadCoins ?xL_BadCoins ?ga_BadCoins ?gg_BadCoins ?ca_BadCoins ?kC_BadCoins ?q0_BadCoins ?a_BadPlace ?xL_BadPlace ?ga_BadPlace ?gg_BadPlace ?ca_BadPlace ?kC_BadPlace ?q0_BadPlace ?a_BadDeed ?xL_BadDeed ?ga_BadDeed ?gg_BadDeed ?ca_BadDeed ?kC_BadDeed ?q0_BadDeed ?a_BadTree ?xL_BadTree ?ga_BadTree ?gg_BadTree ?ca_BadTree ?kC_BadTree ?q0_BadTree ?a_NotUnimodular ?xL_NotUnimodular ?ga_NotUnimodular ?gg_NotUnimodular ?ca_NotUnimodular ?kC_NotUnimodular ?q0_NotUnimodular ?a_NoIndex ?xL_NoIndex ?ga_NoIndex ?gg_NoIndex ?ca_NoIndex ?kC_NoIndex ?q0_NoIndex ?a_NoCorners ?xL_NoCorners ?ga_NoCorners ?gg_NoCorners ?ca_NoCorners ?kC_NoCorners ?q0_NoCorners ?a_NotBounded ?xL_NotBounded ?ga_NotBounded ?gg_NotBounded ?ca_NotBounded ?kC_NotBounded ?q0_NotBounded ?a_NotPointed ?xL_NotPointed ?ga_NotPointed ?gg_NotPointed ?ca_NotPointed ?kC_NotPointed ?q0_NotPointed ?a_Dependent ?xL_Dependent ?ga_Dependent ?gg_Dependent ?ca_Dependent ?kC_Dependent ?q0_Dependent ?a_NothingToUndo ?xL_NothingToUndo ?ga_NothingToUndo ?gg_NothingToUndo ?ca_NothingToUndo ?kC_NothingToUndo ?q0_NothingToUndo ?a_NothingToRedo ?xL_NothingToRedo ?ga_NothingToRedo ?gg_NothingToRedo ?ca_NothingToRedo ?kC_NothingToRedo ?q0_NothingToRedo ?a_BadNumber ?xL_BadNumber ?ga_BadNumber ?gg_BadNumber ?ca_BadNumber ?kC_BadNumber ?a_TooMany ?xL_TooMany ?ga_TooMany ?gg_TooMany ?ca_TooMany ?kC_TooMany ?a_BadEntry ?xL_BadEntry ?ga_BadEntry ?gg_BadEntry ?ca_BadEntry ?kC_BadEntry ?a_BadText ?xL_BadText ?ga_BadText ?gg_BadText ?ca_BadText ?kC_BadText ?fG ?sa_BadNumber ?nb_BadNumber_number ?iC_BadNumber ?tI_BadNumber ?lI_BadNumber ?cI_BadNumber ?lcd_BadNumber ?hvs_BadNumber ?hf_BadNumber ?lcc_BadNumber ?hd0_BadNumber ?sa_TooMany ?nb_TooMany_bound ?iC_TooMany ?tI_TooMany ?lI_TooMany ?cI_TooMany ?lcd_TooMany ?hvs_TooMany ?hf_TooMany ?lcc_TooMany ?hd0_TooMany ?sa_BadEntry ?nb_BadEntry_place ?iC_BadEntry ?tI_BadEntry ?lI_BadEntry ?cI_BadEntry ?lcd_BadEntry ?hvs_BadEntry ?hf_BadEntry ?lcc_BadEntry ?hd0_BadEntry ?sa_BadText ?nb_BadText_line ?nb_BadText_column ?iC_BadText ?tI_BadText ?lI_BadText ?cI_BadText ?lcd_BadText ?hvs_BadText ?hf_BadText ?lcc_BadText ?hd0_BadText ?hn_ ?ht_ Gk00.law_pure
    (case a1 => k_is); (case l1 => k_is); (case c1 => k_is); (case k1 => k_is); (case a2 => k_is); (case l2 => k_is); (case c2 => k_is); (case k2 => k_is); (case a3 => k_is); (case l3 => k_is); (case c3 => k_is); (case k3 => k_is); (case a4 => k_is); (case l4 => k_is); (case c4 => k_is); (case k4 => k_is); (case a5 => k_is); (case l5 => k_is); (case c5 => k_is); (case k5 => k_is); (case a6 => k_is); (case l6 => k_is); (case c6 => k_is); (case k6 => k_is); (case a7 => k_is); (case l7 => k_is); (case c7 => k_is); (case k7 => k_is); (case a8 => k_is); (case l8 => k_is); (case c8 => k_is); (case k8 => k_is); (case a9 => k_is); (case l9 => k_is); (case c9 => k_is); (case k9 => k_is); (case a10 => k_is); (case l10 => k_is); (case c10 => k_is); (case k10 => k_is); (case a11 => k_is); (case l11 => k_is); (case c11 => k_is); (case k11 => k_is); (case a12 => k_is); (case l12 => k_is); (case c12 => k_is); (case k12 => k_is); (case a13 => k_is); (case l13 => k_is); (case c13 => k_is); (case k13 => k_is); (case a14 => k_is); (case l14 => k_is); (case c14 => k_is); (case k14 => k_is); (case z_int => k_is); (case z_range => k_is); (case z_len => k_is); (case z_isinstance => k_is); (case z_ValueError => k_is); (case z_LookupError => k_is); (case z_ArithmeticError => k_is); (case z_TypeError => k_is); (case z_RuntimeError => k_is); (case z_bool => k_is); (case z_any => k_is); (case z_zip => k_is); (case z_all => k_is); (case z_Exception => k_is); (case z_super => k_is); (case z_opq => k_is); (case z_top => exact (by decide +kernel)); (case a_GridError => k_is); (case xL_GridError => k_is); (case ga_GridError => k_is); (case gg_GridError => k_is); (case ca_GridError => k_is); (case kC_GridError => k_is); (case q0_GridError => k_exc); (case a_BadTable => k_is); (case xL_BadTable => k_is); (case ga_BadTable => k_is); (case gg_BadTable => k_is); (case ca_BadTable => k_is); (case kC_BadTable => k_is); (case q0_BadTable => k_exc); (case a_BadSides => k_is); (case xL_BadSides => k_is); (case ga_BadSides => k_is); (case gg_BadSides => k_is); (case ca_BadSides => k_is); (case kC_BadSides => k_is); (case q0_BadSides => k_exc); (case a_BadBody => k_is); (case xL_BadBody => k_is); (case ga_BadBody => k_is); (case gg_BadBody => k_is); (case ca_BadBody => k_is); (case kC_BadBody => k_is); (case q0_BadBody => k_exc); (case a_BadForm => k_is); (case xL_BadForm => k_is); (case ga_BadForm => k_is); (case gg_BadForm => k_is); (case ca_BadForm => k_is); (case kC_BadForm => k_is); (case q0_BadForm => k_exc); (case a_BadCoins => k_is); (case xL_BadCoins => k_is); (case ga_BadCoins => k_is); (case gg_BadCoins => k_is); (case ca_BadCoins => k_is); (case kC_BadCoins => k_is); (case q0_BadCoins => k_exc); (case a_BadPlace => k_is); (case xL_BadPlace => k_is); (case ga_BadPlace => k_is); (case gg_BadPlace => k_is); (case ca_BadPlace => k_is); (case kC_BadPlace => k_is); (case q0_BadPlace => k_exc); (case a_BadDeed => k_is); (case xL_BadDeed => k_is); (case ga_BadDeed => k_is); (case gg_BadDeed => k_is); (case ca_BadDeed => k_is); (case kC_BadDeed => k_is); (case q0_BadDeed => k_exc); (case a_BadTree => k_is); (case xL_BadTree => k_is); (case ga_BadTree => k_is); (case gg_BadTree => k_is); (case ca_BadTree => k_is); (case kC_BadTree => k_is); (case q0_BadTree => k_exc); (case a_NotUnimodular => k_is); (case xL_NotUnimodular => k_is); (case ga_NotUnimodular => k_is); (case gg_NotUnimodular => k_is); (case ca_NotUnimodular => k_is); (case kC_NotUnimodular => k_is); (case q0_NotUnimodular => k_exc); (case a_NoIndex => k_is); (case xL_NoIndex => k_is); (case ga_NoIndex => k_is); (case gg_NoIndex => k_is); (case ca_NoIndex => k_is); (case kC_NoIndex => k_is); (case q0_NoIndex => k_exc); (case a_NoCorners => k_is); (case xL_NoCorners => k_is); (case ga_NoCorners => k_is); (case gg_NoCorners => k_is); (case ca_NoCorners => k_is); (case kC_NoCorners => k_is); (case q0_NoCorners => k_exc); (case a_NotBounded => k_is); (case xL_NotBounded => k_is); (case ga_NotBounded => k_is); (case gg_NotBounded => k_is); (case ca_NotBounded => k_is); (case kC_NotBounded => k_is); (case q0_NotBounded => k_exc); (case a_NotPointed => k_is); (case xL_NotPointed => k_is); (case ga_NotPointed => k_is); (case gg_NotPointed => k_is); (case ca_NotPointed => k_is); (case kC_NotPointed => k_is); (case q0_NotPointed => k_exc); (case a_Dependent => k_is); (case xL_Dependent => k_is); (case ga_Dependent => k_is); (case gg_Dependent => k_is); (case ca_Dependent => k_is); (case kC_Dependent => k_is); (case q0_Dependent => k_exc); (case a_NothingToUndo => k_is); (case xL_NothingToUndo => k_is); (case ga_NothingToUndo => k_is); (case gg_NothingToUndo => k_is); (case ca_NothingToUndo => k_is); (case kC_NothingToUndo => k_is); (case q0_NothingToUndo => k_exc); (case a_NothingToRedo => k_is); (case xL_NothingToRedo => k_is); (case ga_NothingToRedo => k_is); (case gg_NothingToRedo => k_is); (case ca_NothingToRedo => k_is); (case kC_NothingToRedo => k_is); (case q0_NothingToRedo => k_exc); (case a_BadNumber => k_is); (case xL_BadNumber => k_is); (case ga_BadNumber => k_is); (case gg_BadNumber => k_is); (case ca_BadNumber => k_is); (case kC_BadNumber => k_is); (case a_TooMany => k_is); (case xL_TooMany => k_is); (case ga_TooMany => k_is); (case gg_TooMany => k_is); (case ca_TooMany => k_is); (case kC_TooMany => k_is); (case a_BadEntry => k_is); (case xL_BadEntry => k_is); (case ga_BadEntry => k_is); (case gg_BadEntry => k_is); (case ca_BadEntry => k_is); (case kC_BadEntry => k_is); (case a_BadText => k_is); (case xL_BadText => k_is); (case ga_BadText => k_is); (case gg_BadText => k_is); (case ca_BadText => k_is); (case kC_BadText => k_is); (case fG => k_is); (case sa_BadNumber => k_is); (case nb_BadNumber_number => k_is); (case iC_BadNumber => k_is); (case tI_BadNumber => k_is); (case lI_BadNumber => k_is); (case cI_BadNumber => k_is); (case lcd_BadNumber => k_is); (case hvs_BadNumber => exact rfl); (case hf_BadNumber => exact (by decide +kernel)); (case lcc_BadNumber => k_is); (case hd0_BadNumber => k_is); (case sa_TooMany => k_is); (case nb_TooMany_bound => k_is); (case iC_TooMany => k_is); (case tI_TooMany => k_is); (case lI_TooMany => k_is); (case cI_TooMany => k_is); (case lcd_TooMany => k_is); (case hvs_TooMany => exact rfl); (case hf_TooMany => exact (by decide +kernel)); (case lcc_TooMany => k_is); (case hd0_TooMany => k_is); (case sa_BadEntry => k_is); (case nb_BadEntry_place => k_is); (case iC_BadEntry => k_is); (case tI_BadEntry => k_is); (case lI_BadEntry => k_is); (case cI_BadEntry => k_is); (case lcd_BadEntry => k_is); (case hvs_BadEntry => exact rfl); (case hf_BadEntry => exact (by decide +kernel)); (case lcc_BadEntry => k_is); (case hd0_BadEntry => k_is); (case sa_BadText => k_is); (case nb_BadText_line => k_is); (case nb_BadText_column => k_is); (case iC_BadText => k_is); (case tI_BadText => k_is); (case lI_BadText => k_is); (case cI_BadText => k_is); (case lcd_BadText => k_is); (case hvs_BadText => exact rfl); (case hf_BadText => exact (by decide +kernel)); (case lcc_BadText => k_is); (case hd0_BadText => k_is); (case hn_ => k_is); (case ht_ => k_is)
