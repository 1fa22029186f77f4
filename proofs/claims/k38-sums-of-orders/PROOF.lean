import PyProof.Rows.All
import Wide.All
import OpenK.AllK
import Wide.FinOn
import HandS.ForMost
import HandS.ForExc
import HandS.TupAny
import HandS.TupMul
import HandS.TupLe
import HandS.Wide
import HandS.Conv
import HandS.IsInst
import HandS.Deep
import HandS.Rev
import HandS.RevRange
import HandS.Zip
import PyProof.SeqIndex
import KE.KIndexOf
import KE.SortData
import KE.KDictKeyed
import KE.KDictDisplayH
import KE.KDictWalk
import HandS.SortKw
import HandS.EndBits
import HandS.Style
import KE.KTupSum
import KE.GoesMore
import KE.GoesEnum
import HandS.ExcOwn
import HandS.ExcIs
import KE.KDictPairs
import KE.DataMinMax
import KE.GoesZip
import HandS.NoneIn
import KE.DataCmp
import PyProof.ReprRoads
import PyProof.CallStr
import HandS.Text
import PySem.Challenge.RW_crossbends_k38_sums_of_orders
set_option Elab.async false
set_option linter.all false
set_option maxRecDepth 100000
set_option maxHeartbeats 0
namespace CB
open PySem L2

/-- the module's names, by which an exception's class is told -/
class CT where
  mg : Str → Option Value
variable [CT]
/-! ### data as trees -/
inductive D where
  | non | bl (b : Bool) | int (i : Int) | str (s : Str)
  | tup (xs : List D) | lst (xs : List D) | frz (xs : List D)
  | dic (ks : List (List Int)) (vs : List D)
  | tp0 (xs : List D)
  | exc (c : Str) (ns : List Str) (vs : List D)

/-- an exception: its class's name, its fields -/
structure Xn where
  c : Str
  ns : List Str
  vs : List D

mutual
def noL : D → Bool
  | .lst _ => false
  | .dic _ _ => false
  | .tup xs => noLs xs
  | .tp0 xs => noLs xs
  | _ => true
def noLs : List D → Bool
  | [] => true
  | x :: xs => noL x && noLs xs
end

/-! dicts whose keys are tuples of ints: the object is known -/
def dO (a : Addr) (o : Obj) : HO := .ext fun h => h.get? a = some o
abbrev Ents := List (List Int × Addr × Value)
def entI (x : List Int × Addr × Value) : DictEntry := ⟨reduceHash (Builtin.Tuple.tupleHashOf (x.1.map hashInt)), .ref x.2.1, x.2.2⟩
structure IsDic (H : Hp) (a : Addr) (o : Obj) (es : Array DictEntry) (ep : Nat) (xs : Ents) : Prop where
  nsm : (a == sysModules) = false
  ex : o.ExactDict
  dat : o.data = .dict es ep
  ents : es.toList = xs.map entI
  nd : (xs.map (·.1)).Nodup
  sz : xs.length ≤ sizeLine
  key : ∀ x ∈ xs, ∃ q, H x.2.1 = some (.frz q (.tup (x.1.map V.int))) ∧ q.dict = none
theorem IsDic.keep {H H' : Hp} {a : Addr} {o : Obj} {es : Array DictEntry} {ep : Nat} {xs : Ents} (i : IsDic H a o es ep xs) (k : ∀ b q u, H b = some (.frz q u) → H' b = some (.frz q u)) : IsDic H' a o es ep xs :=
  ⟨i.nsm, i.ex, i.dat, i.ents, i.nd, i.sz, fun x hx => let ⟨q, h1, h2⟩ := i.key x hx; ⟨q, k _ _ _ h1, h2⟩⟩

/-! tree d is what v denotes in H; the mutable nodes of it stand at as -/
mutual
inductive Rep (H : Hp) : D → V → List Addr → Prop
  | non : Rep H .non .non []
  | bl (b : Bool) : Rep H (.bl b) (.bl b) []
  | int (i : Int) : Rep H (.int i) (.int i) []
  | str (s : Str) : Rep H (.str s) (.str s) []
  | tup {a : Addr} {o : Obj} {vs : List V} {xs : List D} {as : List Addr} : H a = some (.frz o (.tup vs)) → o.dict = none → Reps H xs vs as → Rep H (.tup xs) (.ref a) as
  | tp0 {a : Addr} {vs : List V} {xs : List D} {as : List Addr} : H a = some (.tup vs) → Reps H xs vs as → Rep H (.tp0 xs) (.ref a) as
  | lst {a : Addr} {vs : List V} {xs : List D} {as : List Addr} : H a = some (.lst vs) → Reps H xs vs as → Rep H (.lst xs) (.ref a) (a :: as)
  | frz {a : Addr} {o : Obj} {vs : List V} {xs : List D} : H a = some (.frz o (.lst vs)) → Reps H xs vs [] → Rep H (.frz xs) (.ref a) []
  | dic {a : Addr} {o : Obj} {es : Array DictEntry} {ep : Nat} {xs : Ents} {vs : List V} {ds : List D} {as : List Addr} : H a = some (dO a o) → IsDic H a o es ep xs → Vals vs (xs.map (·.2.2)) → Reps H ds vs as → Rep H (.dic (xs.map (·.1)) ds) (.ref a) (a :: as)
  | exc {a : Addr} {o : Obj} {C : Addr} {c : Str} : H a = some (.frz o (.own a)) → o.cls = .ref C → o.dict = none → (∃ vs, o.data = .fields vs) → CT.mg c = some (.ref C) → Rep H (.exc c [] []) (.ref a) []
  | excF {a dx : Addr} {o od : Obj} {C : Addr} {c : Str} {ns : List Str} {fs : List V} {vs : List D} : H a = some (.frz o (.own a)) → o.cls = .ref C → o.dict = some dx → (∃ vs, o.data = .fields vs) → CT.mg c = some (.ref C) → ns ≠ [] → H dx = some (.frz od (.xd (ns.zip fs))) → Reps H vs fs [] → Rep H (.exc c ns vs) (.ref a) []
inductive Reps (H : Hp) : List D → List V → List Addr → Prop
  | nil : Reps H [] [] []
  | cons {d : D} {ds : List D} {v : V} {vs : List V} {as bs : List Addr} : Rep H d v as → Reps H ds vs bs → Reps H (d :: ds) (v :: vs) (as ++ bs)
end

def Ex (H H' : Hp) : Prop := ∀ a o, H a = some o → H' a = some o
theorem Ex.refl (H : Hp) : Ex H H := fun _ _ h => h
theorem Ex.trans {H H1 H2 : Hp} (a : Ex H H1) (b : Ex H1 H2) : Ex H H2 := fun x o h => b x o (a x o h)
theorem Ex.new {H : Hp} {p : Addr} {o : HO} (h : H p = none) : Ex H (upd H p o) := fun a u e => by
  rw [upd_ne (ne_of_none e h)]; exact e
theorem Ex.back {H H' : Hp} {p : Addr} (e : Ex H H') (h : H' p = none) : H p = none := by
  cases h1 : H p with
  | none => rfl
  | some o => rw [e p o h1] at h; cases h

/-! what Rep leans on -/
def Imm : HO → Bool
  | .tup _ => true
  | .frz _ _ => true
  | _ => false
mutual
theorem Rep.keep {H H' : Hp} : ∀ {d : D} {v : V} {as : List Addr}, Rep H d v as → (∀ a o, H a = some o → (a ∈ as ∨ Imm o = true) → H' a = some o) → Rep H' d v as
  | _, _, _, .non, _ => .non
  | _, _, _, .bl b, _ => .bl b
  | _, _, _, .int i, _ => .int i
  | _, _, _, .str i, _ => .str i
  | _, _, _, .tup h hd r, k => .tup (k _ _ h (.inr rfl)) hd (Reps.keep r k)
  | _, _, _, .tp0 h r, k => .tp0 (k _ _ h (.inr rfl)) (Reps.keep r k)
  | _, _, _, .lst h r, k => .lst (k _ _ h (.inl (List.mem_cons_self))) (Reps.keep r fun a o e z => k a o e (z.elim (fun m => .inl (List.mem_cons_of_mem _ m)) .inr))
  | _, _, _, .frz h r, k => .frz (k _ _ h (.inr rfl)) (Reps.keep r fun a o e z => k a o e (z.elim (fun m => .inl m) .inr))
  | _, _, _, .dic h i v r, k => .dic (k _ _ h (.inl (List.mem_cons_self))) (i.keep fun b q u e => k b _ e (.inr rfl)) v (Reps.keep r fun a o e z => k a o e (z.elim (fun m => .inl (List.mem_cons_of_mem _ m)) .inr))
  | _, _, _, .exc h h1 h2 h3 h4, k => .exc (k _ _ h (.inr rfl)) h1 h2 h3 h4
  | _, _, _, .excF h h1 h2 h3 h4 h5 h6 r, k => .excF (k _ _ h (.inr rfl)) h1 h2 h3 h4 h5 (k _ _ h6 (.inr rfl)) (Reps.keep r fun a o e z => k a o e (z.elim (fun m => .inl m) .inr))
theorem Reps.keep {H H' : Hp} : ∀ {ds : List D} {vs : List V} {as : List Addr}, Reps H ds vs as → (∀ a o, H a = some o → (a ∈ as ∨ Imm o = true) → H' a = some o) → Reps H' ds vs as
  | _, _, _, .nil, _ => .nil
  | _, _, _, .cons r rs, k => .cons (Rep.keep r fun a o e z => k a o e (z.elim (fun m => .inl (List.mem_append_left _ m)) .inr)) (Reps.keep rs fun a o e z => k a o e (z.elim (fun m => .inl (List.mem_append_right _ m)) .inr))
end
theorem Rep.mono {H H' : Hp} {d : D} {v : V} {as : List Addr} (r : Rep H d v as) (e : Ex H H') : Rep H' d v as := r.keep fun a o h _ => e a o h
theorem Reps.mono {H H' : Hp} {d : List D} {v : List V} {as : List Addr} (r : Reps H d v as) (e : Ex H H') : Reps H' d v as := r.keep fun a o h _ => e a o h
mutual
theorem Rep.there {H : Hp} : ∀ {d : D} {v : V} {as : List Addr}, Rep H d v as → ∀ a ∈ as, ∃ o, H a = some o ∧ Imm o = false
  | _, _, _, .non, _, h => nomatch h
  | _, _, _, .bl b, _, h => nomatch h
  | _, _, _, .int i, _, h => nomatch h
  | _, _, _, .str i, _, h => nomatch h
  | _, _, _, .tup h _ r, a, m => Reps.there r a m
  | _, _, _, .tp0 h r, a, m => Reps.there r a m
  | _, _, _, .lst h r, a, m => by
    rcases List.mem_cons.mp m with e | m
    · subst e; exact ⟨_, h, rfl⟩
    · exact Reps.there r a m
  | _, _, _, .frz h r, _, m => nomatch m
  | _, _, _, .dic h i v r, a, m => by
    rcases List.mem_cons.mp m with e | m
    · subst e; exact ⟨_, h, rfl⟩
    · exact Reps.there r a m
  | _, _, _, .exc _ _ _ _ _, _, m => nomatch m
  | _, _, _, .excF _ _ _ _ _ _ _ _, _, m => nomatch m
theorem Reps.there {H : Hp} : ∀ {ds : List D} {vs : List V} {as : List Addr}, Reps H ds vs as → ∀ a ∈ as, ∃ o, H a = some o ∧ Imm o = false
  | _, _, _, .nil, _, h => nomatch h
  | _, _, _, .cons r rs, a, m => by
    rcases List.mem_append.mp m with m | m
    · exact Rep.there r a m
    · exact Reps.there rs a m
end
mutual
theorem Rep.noL {H : Hp} : ∀ {d : D} {v : V} {as : List Addr}, Rep H d v as → noL d = true → as = []
  | _, _, _, .non, _ => rfl
  | _, _, _, .bl b, _ => rfl
  | _, _, _, .int i, _ => rfl
  | _, _, _, .str i, _ => rfl
  | _, _, _, .tup h _ r, m => Reps.noL r (by simpa [CB.noL] using m)
  | _, _, _, .tp0 h r, m => Reps.noL r (by simpa [CB.noL] using m)
  | _, _, _, .lst h r, m => by simp [CB.noL] at m
  | _, _, _, .frz h r, m => rfl
  | _, _, _, .dic h i v r, m => by simp [CB.noL] at m
  | _, _, _, .exc _ _ _ _ _, _ => rfl
  | _, _, _, .excF _ _ _ _ _ _ _ _, _ => rfl
theorem Reps.noL {H : Hp} : ∀ {ds : List D} {vs : List V} {as : List Addr}, Reps H ds vs as → noLs ds = true → as = []
  | _, _, _, .nil, _ => rfl
  | _, _, _, .cons r rs, m => by
    simp only [noLs, Bool.and_eq_true] at m
    rw [Rep.noL r m.1, Reps.noL rs m.2]; rfl
end
theorem Reps.length {H : Hp} : ∀ {ds : List D} {vs : List V} {as : List Addr}, Reps H ds vs as → ds.length = vs.length
  | _, _, _, .nil => rfl
  | _, _, _, .cons _ rs => by rw [List.length_cons, List.length_cons, Reps.length rs]

/-! ### the results -/
inductive PR where
  | ok (f : Bool) (d : D) | ex (x : Xn) | no
def PR.bind (r : PR) (k : Bool → D → PR) : PR := match r with
  | .ok f d => k f d
  | .ex x => .ex x
  | .no => .no

inductive Sl where
  | emp | val (o : Bool) (d : D) | ref (d : D) | pin
def Sl.get : Sl → Option D
  | .emp => none
  | .val _ d => some d
  | .ref d => some d
  | .pin => none
abbrev Env := List Sl
def Env.look (env : Env) (i : Nat) : Option D := match env[i]? with
  | some s => s.get
  | none => none
abbrev P := Env → PR

def New (H : Hp) (as : List Addr) : Prop := as.Nodup ∧ ∀ a ∈ as, H a = none
theorem New.nil (H : Hp) : New H [] := ⟨List.nodup_nil, fun _ h => nomatch h⟩
theorem New.back {H H' : Hp} {as : List Addr} (n : New H' as) (e : Ex H H') : New H as := ⟨n.1, fun a h => e.back (n.2 a h)⟩

/-- an exception as it leaves -/
def XR (mg : Str → Option Value) (x : Xn) (c : Value) (dx : Option Addr) (H : Hp) : Prop :=
  ∃ C, mg x.c = some (.ref C) ∧ c = .ref C ∧ ((x.ns = [] ∧ dx = none) ∨ (x.ns ≠ [] ∧ ∃ d fs as, dx = some d ∧ H d = some (.xd (x.ns.zip fs)) ∧ Reps H x.vs fs as))

theorem noMem {Q : Addr → Prop} : ∀ a ∈ ([] : List Addr), Q a := fun _ h => nomatch h
def PWant (S : Addr → Prop) (mg : Str → Option Value) (H : Hp) (Q : VK) (E : XK) : PR → Prop
  | .ok f d => ∀ v H' as, Ex H H' → Rep H' d v as → (∀ a ∈ as, S a ∨ H a = none) → (f = true → New H as) → Q v H'
  | .ex x => ∀ c dx H', Ex H H' → XR mg x c dx H' → E c dx H'
  | .no => False
theorem PWant.mono {S : Addr → Prop} {mg : Str → Option Value} {H H1 : Hp} {Q : VK} {E : XK} {r : PR} (w : PWant S mg H Q E r) (e : Ex H H1) : PWant S mg H1 Q E r := by
  cases r with
  | ok f d => exact fun v H' as e' r m n => w v H' as (e.trans e') r (fun a h => (m a h).imp_right fun z => e.back z) fun z => (n z).back e
  | ex x => exact fun c dx H' e' r => w c dx H' (e.trans e') r
  | no => exact w

def Lens (env : Env) (σ : L2.St) : Prop := env.length ≤ σ.length
structure ObsEnv (S : Addr → Prop) (H : Hp) (env : Env) (σ : L2.St) : Prop where
  len : Lens env σ
  get : ∀ i d, Env.look env i = some d → ∃ v as, σ[i]? = some (some v) ∧ Rep H d v as ∧ ∀ a ∈ as, S a
theorem ObsEnv.mono {S : Addr → Prop} {H H1 : Hp} {env : Env} {σ : L2.St} (o : ObsEnv S H env σ) (e : Ex H H1) : ObsEnv S H1 env σ := ⟨o.len, fun i d h => by
  obtain ⟨v, as, h1, h2, h3⟩ := o.get i d h
  exact ⟨v, as, h1, h2.mono e, h3⟩⟩

/-- the expression e computes p, changing nothing -/
def SndP (X : Cx) (E : XK) (e : Expr) (p : P) : Prop := ∃ t, PE X e t ∧ ∀ (S : Addr → Prop) env σ H Q, ObsEnv S H env σ → PWant S X.mg H Q E (p env) → t σ H Q

/-! ### operands -/
inductive Kd where
  | new | lin | ali
def Kd.fl : Kd → Bool → Bool
  | .new, _ => true
  | .lin, g => g
  | .ali, _ => false
def KdOk (k : Kd) (H : Hp) (ops cs : List Addr) : Prop := (∀ a ∈ cs, H a = none ∨ a ∈ ops) ∧ match k with
  | .new => New H cs
  | .lin => ops.Nodup → cs.Nodup
  | .ali => True
theorem KdOk.nil {k : Kd} {H : Hp} {ops : List Addr} : KdOk k H ops [] := ⟨noMem, by cases k <;> first | exact .nil H | exact fun _ => List.nodup_nil | trivial⟩
theorem KdOk.mk1 {H : Hp} {ops cs : List Addr} (n : New H cs) : KdOk .new H ops cs := ⟨fun a h => .inl (n.2 a h), n⟩
theorem KdOk.mk2 {H : Hp} {ops cs : List Addr} (m : ∀ a ∈ cs, H a = none ∨ a ∈ ops) (n : ops.Nodup → cs.Nodup) : KdOk .lin H ops cs := ⟨m, n⟩
def gfl (f : Bool) (d : D) : Bool := f || noL d

inductive AR where
  | ok (f : Bool) (ds : List D) | ex (x : Xn) | no
def AR.bind (r : AR) (k : Bool → List D → PR) : PR := match r with
  | .ok f d => k f d
  | .ex x => .ex x
  | .no => .no
def args : List P → Env → AR
  | [], _ => .ok true []
  | p :: ps, env => match p env with
    | .ok f d => match args ps env with
      | .ok g ds => .ok (gfl f d && g) (d :: ds)
      | .ex x => .ex x
      | .no => .no
    | .ex x => .ex x
    | .no => .no
def AWant (S : Addr → Prop) (mg : Str → Option Value) (H : Hp) (Q : List V → Hp → Prop) (E : XK) : AR → Prop
  | .ok f ds => ∀ vs H' as, Ex H H' → Reps H' ds vs as → (∀ a ∈ as, S a ∨ H a = none) → (f = true → New H as) → Q vs H'
  | .ex x => ∀ c dx H', Ex H H' → XR mg x c dx H' → E c dx H'
  | .no => False
theorem AWant.mono {S : Addr → Prop} {mg : Str → Option Value} {H H1 : Hp} {Q : List V → Hp → Prop} {E : XK} {r : AR} (w : AWant S mg H Q E r) (e : Ex H H1) : AWant S mg H1 Q E r := by
  cases r with
  | ok f d => exact fun v H' as e' r m n => w v H' as (e.trans e') r (fun a h => (m a h).imp_right fun z => e.back z) fun z => (n z).back e
  | ex x => exact fun c dx H' e' r => w c dx H' (e.trans e') r
  | no => exact w
def SndA (X : Cx) (E : XK) (es : List Expr) (ps : List P) : Prop := ∃ t, PA X es t ∧ ∀ (S : Addr → Prop) env σ H Q, ObsEnv S H env σ → AWant S X.mg H Q E (args ps env) → t σ H Q

theorem New.app {H H1 : Hp} {as bs : List Addr} (e : Ex H H1) (ha : New H as) (hb : New H1 bs) (ht : ∀ a ∈ as, H1 a ≠ none) : New H (as ++ bs) := by
  refine ⟨List.nodup_append.mpr ⟨ha.1, hb.1, fun a h b h' q => ?_⟩, fun a h => ?_⟩
  · subst q; exact ht a h (hb.2 a h')
  · rcases List.mem_append.mp h with h | h
    · exact ha.2 a h
    · exact e.back (hb.2 a h)
theorem Rep.ne {H : Hp} {d : D} {v : V} {as : List Addr} (r : Rep H d v as) : ∀ a ∈ as, H a ≠ none := fun a h q => by
  obtain ⟨vs, e, _⟩ := r.there a h
  rw [e] at q; cases q
theorem Reps.ne {H : Hp} {d : List D} {v : List V} {as : List Addr} (r : Reps H d v as) : ∀ a ∈ as, H a ≠ none := fun a h q => by
  obtain ⟨vs, e, _⟩ := r.there a h
  rw [e] at q; cases q
theorem gfl_new {H H' : Hp} {f : Bool} {d : D} {v : V} {as : List Addr} (g : gfl f d = true) (r : Rep H' d v as) (n : f = true → New H as) : New H as := by
  unfold gfl at g
  cases f with
  | true => exact n rfl
  | false => rw [r.noL (by simpa using g)]; exact .nil _

section
variable {X : Cx} {E : XK}
theorem snda_nil : SndA X E [] [] := ⟨_, pa_nil, fun S env σ H Q _ w => w [] H [] (Ex.refl H) .nil noMem fun _ => .nil H⟩
theorem snda_cons {e : Expr} {es : List Expr} {p : P} {ps : List P} (h : SndP X E e p) (hs : SndA X E es ps) (hst : starEach (e :: es) X.env = (false, eval e X.env) :: starEach es X.env := by rfl) : SndA X E (e :: es) (p :: ps) := by
  obtain ⟨t, h1, h2⟩ := h
  obtain ⟨u, h3, h4⟩ := hs
  refine ⟨_, pa_cons h1 h3 hst, fun S env σ H Q o w => h2 S env σ H _ o ?_⟩
  cases hp : p env with
  | no => simp only [args, hp] at w; exact w
  | ex x => simp only [args, hp] at w; exact w
  | ok f d =>
    intro v H1 as e1 r1 m1 n1
    refine h4 S env σ H1 _ (o.mono e1) ?_
    cases hq : args ps env with
    | no => simp only [args, hp, hq] at w; exact w.elim
    | ex x => simp only [args, hp, hq] at w; exact fun c dx H' e' r => w c dx H' (e1.trans e') r
    | ok g ds =>
      simp only [args, hp, hq] at w
      intro vs H2 bs e2 r2 m2 n2
      refine w (v :: vs) H2 (as ++ bs) (e1.trans e2) (.cons (r1.mono e2) r2) (fun a h => (List.mem_append.mp h).elim (m1 a) fun h => (m2 a h).imp_right fun z => e1.back z) fun z => ?_
      rw [Bool.and_eq_true] at z
      exact New.app e1 (gfl_new z.1 r1 n1) (n2 z.2) r1.ne

/-! ### names and constants -/
def var (i : Nat) : P := fun env => match Env.look env i with
  | some d => .ok false d
  | none => .no
theorem snd_var (i : Nat) {x : Str} {pos : Pos} (hN : X.N[i]? = some x) (hv : Vis X.env.scope x) (hd : (x == ("__debug__" : Str)) = false := by decide) (hcd : (x == ("__classdict__" : Str)) = false := by decide) : SndP X E (.Name x pos) (var i) := by
  refine ⟨_, pe_var hN hv hd hcd, fun S env σ H Q o w => ?_⟩
  unfold var at w
  cases h : Env.look env i with
  | none => rw [h] at w; exact w.elim
  | some d =>
    rw [h] at w
    obtain ⟨v, as, h1, h2, h3⟩ := o.get i d h
    exact ⟨v, h1, w v H as (Ex.refl H) h2 (fun a m => .inl (h3 a m)) fun z => nomatch z⟩
def cst (d : D) : P := fun _ => .ok true d
theorem snd_int {i : Int} {j : Nat} {pos : Pos} : SndP X E (.Constant (.int i) j pos) (cst (.int i)) := ⟨_, pe_int, fun S _ _ H _ _ w => w _ H [] (Ex.refl H) (.int i) noMem fun _ => .nil H⟩
theorem snd_bl {b : Bool} {j : Nat} {pos : Pos} : SndP X E (.Constant (.bool b) j pos) (cst (.bl b)) := ⟨_, pe_bl, fun S _ _ H _ _ w => w _ H [] (Ex.refl H) (.bl b) noMem fun _ => .nil H⟩
theorem snd_non {j : Nat} {pos : Pos} : SndP X E (.Constant .none j pos) (cst .non) := ⟨_, pe_non, fun S _ _ H _ _ w => w _ H [] (Ex.refl H) .non noMem fun _ => .nil H⟩
theorem snd_str {x : Str} {j : Nat} {pos : Pos} : SndP X E (.Constant (.str x) j pos) (cst (.str x)) := ⟨_, pe_str, fun S _ _ H _ _ w => w _ H [] (Ex.refl H) (.str x) noMem fun _ => .nil H⟩
theorem snd_gint {x : Str} {i : Int} {t : Tok} {pos : Pos} (hg : Gl X x) (hm : X.mg x = some (.int i t)) (hd : (x == ("__debug__" : Str)) = false := by decide) : SndP X E (.Name x pos) (cst (.int i)) :=
  ⟨_, pe_glob (v := .int i) hg hm ⟨t, rfl⟩ hd, fun S _ _ H _ _ w => w _ H [] (Ex.refl H) (.int i) noMem fun _ => .nil H⟩
theorem snd_gstr {x : Str} {i : Str} {t : Tok} {pos : Pos} (hg : Gl X x) (hm : X.mg x = some (.str i t)) (hd : (x == ("__debug__" : Str)) = false := by decide) : SndP X E (.Name x pos) (cst (.str i)) :=
  ⟨_, pe_glob (v := .str i) hg hm ⟨t, rfl⟩ hd, fun S _ _ H _ _ w => w _ H [] (Ex.refl H) (.str i) noMem fun _ => .nil H⟩

/-! ### operations by values -/
def op2 (f : D → D → Option (Kd × D)) (a b : P) : P := fun env => (a env).bind fun fa x => (b env).bind fun fb y => match f x y with
  | some (k, d) => .ok (k.fl (gfl fa x && gfl fb y)) d
  | none => .no
def V2 (r : R2) (f : D → D → Option (Kd × D)) : Prop := ∀ H x y v w as bs k d (Q : VK), Rep H x v as → Rep H y w bs → f x y = some (k, d) → (∀ u H' cs, Ex H H' → Rep H' d u cs → KdOk k H (as ++ bs) cs → Q u H') → r v w H Q
/-- from a kind and the operands' flags to the result's flag -/
theorem kd_new {k : Kd} {g : Bool} {H H1 : Hp} {ops cs : List Addr} (e : Ex H H1) (n : g = true → New H ops) (h : KdOk k H1 ops cs) : k.fl g = true → New H cs := fun z => by
  cases k with
  | new => exact New.back h.2 e
  | ali => cases z
  | lin =>
    have n' := n z
    exact ⟨h.2 n'.1, fun a m => (h.1 a m).elim (fun q => e.back q) fun q => n'.2 a q⟩
/-- .. and where its nodes come from -/
theorem kd_mem {k : Kd} {S : Addr → Prop} {H H1 : Hp} {ops cs : List Addr} (e : Ex H H1) (m : ∀ a ∈ ops, S a ∨ H a = none) (h : KdOk k H1 ops cs) : ∀ a ∈ cs, S a ∨ H a = none := fun a q =>
  (h.1 a q).elim (fun z => .inr (e.back z)) fun z => m a z
theorem mem_app {S : Addr → Prop} {H H1 : Hp} {as bs : List Addr} (e : Ex H H1) (m1 : ∀ a ∈ as, S a ∨ H a = none) (m2 : ∀ a ∈ bs, S a ∨ H1 a = none) : ∀ a ∈ as ++ bs, S a ∨ H a = none := fun a h =>
  (List.mem_append.mp h).elim (m1 a) fun h => (m2 a h).imp_right fun z => e.back z
theorem snd_op2G {e1 e2 e : Expr} {p1 p2 : P} {r : R2} {f : D → D → Option (Kd × D)} (mk : ∀ {ta tb}, PE X e1 ta → PE X e2 tb → PE X e (tOp r ta tb)) (hv : V2 r f) (h1 : SndP X E e1 p1) (h2 : SndP X E e2 p2) : SndP X E e (op2 f p1 p2) := by
  obtain ⟨t, h1, g1⟩ := h1
  obtain ⟨u, h2, g2⟩ := h2
  refine ⟨_, mk h1 h2, fun S env σ H Q o w => g1 S env σ H _ o ?_⟩
  unfold op2 at w
  cases hp : p1 env with
  | no => rw [hp] at w; exact w
  | ex x => rw [hp] at w; exact w
  | ok fa x =>
    intro v H1 as ex1 r1 m1 n1
    refine g2 S env σ H1 _ (o.mono ex1) ?_
    cases hq : p2 env with
    | no => rw [hp, hq] at w; exact w
    | ex x => rw [hp, hq] at w; exact fun c dx H' e' r => w c dx H' (ex1.trans e') r
    | ok fb y =>
      rw [hp, hq] at w
      intro v2 H2 bs ex2 r2 m2 n2
      simp only [PR.bind] at w
      cases hf : f x y with
      | none => rw [hf] at w; exact w.elim
      | some kd =>
        obtain ⟨k, d⟩ := kd
        rw [hf] at w
        refine hv H2 x y v v2 as bs k d Q (r1.mono ex2) r2 hf fun z H3 cs ex3 r3 kk => w z H3 cs ((ex1.trans ex2).trans ex3) r3 (kd_mem (ex1.trans ex2) (mem_app ex1 m1 m2) kk) (kd_new (ex1.trans ex2) (fun g => ?_) kk)
        rw [Bool.and_eq_true] at g
        exact New.app ex1 (gfl_new g.1 r1 n1) (gfl_new g.2 r2 n2) r1.ne
theorem snd_bin {e1 e2 : Expr} {p1 p2 : P} {op : Operator} {pos : Pos} {r : R2} {f : D → D → Option (Kd × D)} (ho : OpR X (binaryOp op) r) (hv : V2 r f) (h1 : SndP X E e1 p1) (h2 : SndP X E e2 p2) : SndP X E (.BinOp e1 op e2 pos) (op2 f p1 p2) :=
  snd_op2G (fun a b => pe_op ho a b) hv h1 h2
theorem snd_cmp {e1 e2 : Expr} {p1 p2 : P} {op : CmpOp} {pos : Pos} {r : R2} {f : D → D → Option (Kd × D)} (ho : OpR X (compareOp op) r) (hv : V2 r f) (h1 : SndP X E e1 p1) (h2 : SndP X E e2 p2) (hm : behindInMarks op e2 = false) : SndP X E (.Compare e1 [op] [e2] pos) (op2 f p1 p2) :=
  snd_op2G (fun a b => pe_cmpR ho a b hm) hv h1 h2
theorem snd_ix {e1 e2 : Expr} {p1 p2 : P} {pos : Pos} {r : R2} {f : D → D → Option (Kd × D)} (ho : IxR X r) (hv : V2 r f) (h1 : SndP X E e1 p1) (h2 : SndP X E e2 p2) (hm : PlainIx e2 := by intro _ _; rfl) : SndP X E (.Subscript e1 e2 pos) (op2 f p1 p2) :=
  snd_op2G (fun a b => pe_ix ho a b hm) hv h1 h2

/-! ### tests -/
def TWant (mg : Str → Option Value) (H : Hp) (Q : Bool → Hp → Prop) (E : XK) : PR → Prop
  | .ok _ (.bl b) => ∀ H', Ex H H' → Q b H'
  | .ok _ _ => False
  | .ex x => ∀ c dx H', Ex H H' → XR mg x c dx H' → E c dx H'
  | .no => False
def SndT (X : Cx) (E : XK) (e : Expr) (p : P) : Prop := ∃ t, PT X e t ∧ ∀ (S : Addr → Prop) env σ H Q, ObsEnv S H env σ → TWant X.mg H Q E (p env) → t σ H Q
theorem TWant.toP {mg : Str → Option Value} {H : Hp} {Q : Bool → Hp → Prop} {E : XK} {r : PR} {S : Addr → Prop} (w : TWant mg H Q E r) : PWant S mg H (fun x H' => ∃ k, x = V.bl k ∧ Q k H') E r := by
  cases r with
  | no => exact w
  | ex x => exact w
  | ok f d =>
    cases d with
    | bl b =>
      intro v H' as e r _ _
      cases r
      exact ⟨b, rfl, w H' e⟩
    | _ => exact (show False from w).elim
theorem sndt_val {e : Expr} {p : P} (h : SndP X E e p) (he : ∀ whole, isTrue e X.env whole = (do let v ← whole; standAt e.pos; holding [v] (truthy v)) := by intro _; rfl) : SndT X E e p := by
  obtain ⟨t, h1, h2⟩ := h
  exact ⟨_, pt_val h1 he, fun S env σ H Q o w => h2 S env σ H _ o w.toP⟩
theorem sndt_cmp {e1 e2 : Expr} {p1 p2 : P} {op : CmpOp} {pos : Pos} {r : R2} {f : D → D → Option (Kd × D)} (ho : OpR X (compareOp op) r) (hv : V2 r f) (h1 : SndP X E e1 p1) (h2 : SndP X E e2 p2) (hm : behindInMarks op e2 = false) : SndT X E (.Compare e1 [op] [e2] pos) (op2 f p1 p2) := by
  obtain ⟨t, h1, g1⟩ := h1
  obtain ⟨u, h2, g2⟩ := h2
  refine ⟨_, pt_cmpR ho h1 h2 hm, fun S env σ H Q o w => ?_⟩
  -- through the value's reading
  have key : SndP X E (.Compare e1 [op] [e2] pos) (op2 f p1 p2) := snd_op2G (E := E) (fun {ta tb} a b => pe_cmpR ho a b hm) hv ⟨t, h1, g1⟩ ⟨u, h2, g2⟩
  have w' := w.toP (S := S)
  -- the same steps as snd_op2G
  refine g1 S env σ H _ o ?_
  unfold op2 at w'
  cases hp : p1 env with
  | no => rw [hp] at w'; exact w'
  | ex x => rw [hp] at w'; exact w'
  | ok fa x =>
    intro v H1 as ex1 r1 m1 n1
    refine g2 S env σ H1 _ (o.mono ex1) ?_
    cases hq : p2 env with
    | no => rw [hp, hq] at w'; exact w'
    | ex x => rw [hp, hq] at w'; exact fun c dx H' e' r => w' c dx H' (ex1.trans e') r
    | ok fb y =>
      rw [hp, hq] at w'
      intro v2 H2 bs ex2 r2 m2 n2
      simp only [PR.bind] at w'
      cases hf : f x y with
      | none => rw [hf] at w'; exact w'.elim
      | some kd =>
        obtain ⟨k, d⟩ := kd
        rw [hf] at w'
        refine hv H2 x y v v2 as bs k d _ (r1.mono ex2) r2 hf fun z H3 cs ex3 r3 kk => w' z H3 cs ((ex1.trans ex2).trans ex3) r3 (kd_mem (ex1.trans ex2) (mem_app ex1 m1 m2) kk) (kd_new (ex1.trans ex2) (fun g => ?_) kk)
        rw [Bool.and_eq_true] at g
        exact New.app ex1 (gfl_new g.1 r1 n1) (gfl_new g.2 r2 n2) r1.ne
end
end CB

namespace CB
open PySem L2 PySem.Spec PyProof.Rows
variable [CT]

/-! ### tuples with their objects known -/
section
variable {X : Cx} {pins : List (Addr × Obj)} {σ : L2.St} {H : Hp} {s : Shared}
theorem Inv.tupF {xs : List V} {its : List Value} (I : L2.Inv X pins σ H s) (r : Vals xs its) (hz : xs.length ≤ sizeLine) :
    L2.Inv X pins σ (upd H s.heap.objs.size (.frz { cls := .type "tuple", data := .seq its.toArray } (.tup xs))) { s with heap := s.heap.push { cls := .type "tuple", data := .seq its.toArray } } :=
  L2.Inv.laid (t' := s.toks) I (fun b o e => Heap.get?_push_of_some _ e) (Nat.le_refl _) ⟨Heap.get?_push_size _ rfl, hz, its, r, IsTup.new _ _⟩
end
section
variable {X : Cx}
theorem SqT.frz {K : PySem.W.Frag} {H : Hp} {a : Addr} {o : Obj} {xs : List V} (h : H a = some (.frz o (.tup xs))) : SqT K H a xs := .inl (.inr ⟨o, h⟩)
theorem SqL.frz {K : PySem.W.Frag} {H : Hp} {a : Addr} {o : Obj} {xs : List V} (h : H a = some (.frz o (.lst xs))) : SqL K H a xs := .inl (.inr ⟨o, h⟩)
/-- a new tuple -/
def NewT (xs : List V) (H : Hp) (Q : VK) : Prop := ∀ p o, H p = none → o.dict = none → Q (.ref p) (upd H p (.frz o (.tup xs)))
def tTupF (t : TA) : TE := fun σ H Q => t σ H fun xs H1 => xs.length ≤ sizeLine ∧ NewT xs H1 Q
theorem pe_tupF {es : List Expr} {t : TA} {x1 : Nat} {pos : Pos} (h : PA X es t) : PE X (.Tuple es x1 pos) (tTupF t) := by
  refine ⟨fun pins s σ H Q I hq => ?_⟩
  refine wpAny_Tuple_spliced (thn (h.run pos pins s σ H _ I hq) fun us s1 ⟨xs, H1, I1, r, z, q⟩ => ⟨by rw [← r.length]; exact z, ?_⟩)
  have hf : H1 s1.heap.objs.size = none := I1.hok.fresh (Nat.le_refl _)
  exact ⟨.ref s1.heap.objs.size, _, Inv.tupF I1 r z, rfl, q _ _ hf rfl⟩
def rCatF (K : PySem.W.Frag) : R2 := fun x y H Q => ∃ a b xs ys, x = .ref a ∧ y = .ref b ∧ SqT K H a xs ∧ SqT K H b ys ∧ xs.length + ys.length ≤ sizeLine ∧
  (xs = [] → Q (.ref b) H) ∧ (xs ≠ [] → ys = [] → Q (.ref a) H) ∧ (xs ≠ [] → ys ≠ [] → NewT (xs ++ ys) H Q)
theorem op_catF : OpR X (binaryOp .Add) (rCatF X.K) := by
  intro pins s σ H x y v u Q I rx ry h
  obtain ⟨a, b, xs, ys, rfl, rfl, ha, hb, hz, q0, q1, q2⟩ := h
  cases rx
  cases ry
  obtain ⟨its, r1, p1, _⟩ := I.tuple ha
  obtain ⟨its2, r2, p2, _⟩ := I.tuple hb
  by_cases hx : xs = []
  · subst hx
    cases r1
    exact cat_tup0 p1 p2 ⟨.ref b, H, I, rfl, q0 rfl⟩
  · refine HT.cat_tup p1 p2 (fun z => hx (r1.nil_iff.mp z)) (fun z => ⟨.ref a, H, I, rfl, q1 hx (r2.nil_iff.mp z)⟩) (fun z => ?_) (by rw [← r1.length, ← r2.length]; exact hz)
    exact ⟨.ref s.heap.objs.size, _, Inv.tupF I (r1.append r2) (by rw [List.length_append]; exact hz), rfl, q2 hx (fun w => z (r2.nil_iff.mpr w)) _ _ (I.hok.fresh (Nat.le_refl _)) rfl⟩
def rSlF (K : PySem.W.Frag) : V → Option Int → Option Int → Hp → VK → Prop := fun x lo hi H Q => ∃ a xs, x = .ref a ∧ SqT K H a xs ∧
  (HT.sIx xs.length 0 lo = 0 ∧ HT.sIx xs.length xs.length hi = xs.length → Q (.ref a) H) ∧ (¬ (HT.sIx xs.length 0 lo = 0 ∧ HT.sIx xs.length xs.length hi = xs.length) → NewT (cutV xs lo hi) H Q)
theorem sl_tupF : SlR X (rSlF X.K) := by
  intro pins s σ H x v vl vu lo hi sl Q I rx hs pl pu h
  obtain ⟨a, xs, rfl, hx, q1, q2⟩ := h
  cases rx
  obtain ⟨its, r, ht, hz⟩ := I.tuple hx
  have hlen : its.toArray.size = xs.length := by rw [List.size_toArray]; exact r.length.symm
  refine ⟨"tuple", _, PyProof.Rows.slot_tuple_getitem.lookup, ht.typeIs, ?_⟩
  by_cases hw : HT.sIx xs.length 0 lo = 0 ∧ HT.sIx xs.length xs.length hi = xs.length
  · exact getItem_tuple_whole ht hs pl pu (by rw [hlen]; exact hw) ⟨.ref a, H, I, rfl, q1 hw⟩
  · refine HT.getItem_tuple_cut ht hs pl pu (by rw [hlen]; exact hw) ?_ (by rw [hlen]; exact hz)
    rw [hlen]
    exact ⟨.ref s.heap.objs.size, _, Inv.tupF I ((r.drop (HT.sIx xs.length 0 lo)).take (HT.sIx xs.length xs.length hi - HT.sIx xs.length 0 lo)) (Nat.le_trans (cutV_length xs lo hi) hz), rfl, q2 hw _ _ (I.hok.fresh (Nat.le_refl _)) rfl⟩
/-- tuple(x) -/
def rTupOf (K : PySem.W.Frag) : List V → Hp → VK → Prop := fun vs H Q => ∃ p xs, vs = [.ref p] ∧ ((SqL K H p xs ∧ NewT xs H Q) ∨ (SqT K H p xs ∧ Q (.ref p) H))
theorem cr_tupOf : CallR X (.type "tuple") (rTupOf X.K) := by
  intro pins s σ H xs us Q I r h
  obtain ⟨p, ys, rfl, h⟩ := h
  obtain ⟨u, rfl, ru⟩ := vals1 r
  cases ru
  rcases h with ⟨hs, q⟩ | ⟨hs, q⟩
  · obtain ⟨its, rv, pl, hz⟩ := I.list hs
    refine call_tuple_list pl.isList (fun h' hk => ?_) (by rw [List.size_toArray, ← rv.length]; exact hz)
    have I1 : L2.Inv X pins σ H { s with heap := h' } := I.kept (t' := s.toks) hk
    exact ⟨.ref h'.objs.size, _, Inv.tupF (s := { s with heap := h' }) I1 rv hz, rfl, q _ _ (I1.hok.fresh (Nat.le_refl _)) rfl⟩
  · obtain ⟨its, rv, pl, hz⟩ := I.tuple hs
    exact call_tuple_tup pl ⟨.ref p, H, I, rfl, q⟩
/-- tuple(range(..)) -/
def tTupRgF (te : L2.St → Hp → (Int → Int → Hp → Prop) → Prop) : TE := fun σ H Q => te σ H fun a b H1 => RgOk a b ∧ NewT (rgV a b) H1 Q
theorem pe_tupRgF {e : Expr} {te : L2.St → Hp → (Int → Int → Hp → Prop) → Prop} {p pos : Pos} (hc : X.calm = true) (hg : Gl X "tuple") (hm : X.mg "tuple" = none) (he : PRg X e te) (na : starEach [e] X.env = (false, eval e X.env) :: starEach [] X.env := by rfl) : PE X (.Call (.Name "tuple" p) [e] [] pos) (tTupRgF te) := by
  refine ⟨fun pins s σ H Q I h => ?_⟩
  refine Call_ (ld_blt I hg hm boot_tuple (PyProof.Rows.callWith_type1 (args_cons (thn (he pins s σ H _ I h) fun x s1 ⟨r, a, b, t, u, v, H1, ex, hr, I1, ok, q⟩ => args_nil ?_) na) na))
  subst ex
  obtain ⟨b1, b2, b3, b4, b5⟩ := ok
  refine call_tuple_range (n := (b - a).toNat) (I1.ok.hd hc) hr (small_one b1 b2 b3 b4) (rangeSize_nat a b) b5 fun h' tk acc hk hi => ?_
  have I2 : L2.Inv X pins σ H1 { s1 with heap := h', toks := tk } := I1.kept hk
  have I3 := Inv.tupF (s := { s1 with heap := h', toks := tk }) I2 (vals_rg hi) (by rw [rgV_length, sizeLine_eq]; omega)
  rw [Array.toArray_toList] at I3
  exact ⟨.ref h'.objs.size, _, I3, rfl, q _ _ (I2.hok.fresh (Nat.le_refl _)) rfl⟩
/-- t.index(x), ints -/
def rTIndex : V → List V → Hp → VK → Prop := fun x xs H Q => ∃ (a : Addr) (o : Obj) (ns : List Int) (k : Int), x = .ref a ∧ xs = [.int k] ∧ H a = some (.frz o (.tup (ns.map V.int))) ∧ o.dict = none ∧ k ∈ ns ∧ Q (.int (ns.idxOf k : Nat)) H
def tTM (r : V → List V → Hp → VK → Prop) (to : TE) (t : TA) : TE := fun σ H Q => to σ H fun x H1 => (∃ a o vs, x = .ref a ∧ H1 a = some (.frz o (.tup vs)) ∧ o.dict = none) ∧ t σ H1 fun xs H2 => r x xs H2 Q
theorem mt_tindex (pins : List (Addr × Obj)) (s : Shared) (σ : L2.St) (H : Hp) (x : V) (xs : List V) (v : Value) (us : List Value) (Q : VK) (I : L2.Inv X pins σ H s) (rx : RelV x v) (rs : Vals xs us) (h : rTIndex x xs H Q) :
    wpAny (model X.prog X.w) X.A (call (.builtin "tuple.index") (v :: us)) (EP X pins σ Q) X.xe s := by
  obtain ⟨a, o, ns, k, rfl, rfl, ha, hd, hk, q⟩ := h
  cases rx
  obtain ⟨u, rfl, t, rfl⟩ := vals1 rs
  obtain ⟨its, r, p, hz⟩ := I.tuple (SqT.frz ha)
  exact PySem.SeqAt.call_tuple_index (ks := ns) p (PySem.SeqAt.ItemsEq.ints (intsAre_of r)) hk ⟨.int _, H, I.tok _, ⟨_, rfl⟩, q⟩
theorem pe_tindex {o e : Expr} {to : TE} {t : TA} {apos cpos : Pos} (ho : PE X o to) (ha : PA X [e] t)
    (hbase : attributeBase o ("index" : Str) X.env (eval o X.env) = eval o X.env := by rfl)
    (hfew : ((backTo cpos (starEach [e] X.env)).all (fun x => !x.1) && (backToKw cpos (keywordEach [] X.env)).all (fun x => x.1.isSome)
      && decide (([e] : List Expr).length + ([] : List Keyword).length + (if ([] : List Keyword).isEmpty then 0 else 1) < 30)) = true := by rfl)
    (hline : (apos.endLine == cpos.line) = true := by rfl) (hs : starEach [e] X.env = (false, eval e X.env) :: starEach [] X.env := by rfl) (hplain : (backTo cpos (starEach [] X.env)).any (·.1) = false := by rfl) :
    PE X (.Call (.Attribute o ("index" : Str) apos) [e] [] cpos) (tTM rTIndex to t) := by
  refine ⟨fun pins s σ H Q I h => ?_⟩
  refine wpAny_Call_method_late hbase hfew hline rfl (thn (ho.run pins s σ H _ I h) fun v s1 ⟨x, H1, I1, r1, ⟨a, o', vs, ex, ea, ed⟩, q1⟩ => ?_)
  subst ex
  cases r1
  obtain ⟨eo, _, _, _, p⟩ := (show ObjOk X.prog X.w H1 s1.heap a (.frz o' (.tup vs)) from I1.hok a _ ea)
  refine ⟨"tuple", "tuple.index", PySem.F.plainAttrs_tuple, PySem.F.slot_tuple_index, PySem.F.type_tuple_index, p.typeIs, fun b e => ?_, ?_⟩
  · cases e; exact ⟨o', eo, ed⟩
  · have hA := ha.run cpos pins s1 σ H1 _ I1 q1
    rw [hs] at hA ⊢
    refine Calls.callWith_builtin (by show (false || (backTo cpos (starEach [] X.env)).any (·.1)) = false; rw [hplain] <;> rfl) (Calls.evalArgs_plain ?_)
    exact thn hA fun us s2 ⟨ws, H2, I2, r2, q2⟩ => mt_tindex pins s2 σ H2 (.ref a) ws (.ref a) us Q I2 rfl r2 q2
end
end CB

namespace CB
open PySem L2 PySem.Spec PyProof.Rows
variable [CT]

/-! ### lists of trees -/
theorem Reps.append {H : Hp} : ∀ {xs ys : List D} {vs ws : List V} {as bs : List Addr}, Reps H xs vs as → Reps H ys ws bs → Reps H (xs ++ ys) (vs ++ ws) (as ++ bs)
  | _, _, _, _, _, _, .nil, s => s
  | _, _, _, _, _, _, .cons (as := a) (bs := b) r rs, s => by
    rw [List.append_assoc]
    exact .cons r (Reps.append rs s)
theorem Reps.get {H : Hp} : ∀ {xs : List D} {vs : List V} {as : List Addr} {i : Nat} {d : D}, Reps H xs vs as → xs[i]? = some d → ∃ v bs cs es, vs[i]? = some v ∧ Rep H d v bs ∧ as = cs ++ bs ++ es
  | _, _, _, _, _, .nil, h => by simp at h
  | _, _, _, 0, _, .cons (as := a) (bs := b) r rs, h => by
    simp at h; subst h
    exact ⟨_, a, [], b, rfl, r, by simp⟩
  | _, _, _, i + 1, _, .cons (as := a) (bs := b) r rs, h => by
    obtain ⟨v, bs, cs, es, h1, h2, h3⟩ := Reps.get (i := i) rs (by simpa using h)
    exact ⟨v, bs, a ++ cs, es, by simpa using h1, h2, by rw [h3]; simp [List.append_assoc]⟩
theorem Reps.take {H : Hp} : ∀ {xs : List D} {vs : List V} {as : List Addr} (n : Nat), Reps H xs vs as → ∃ bs cs, Reps H (xs.take n) (vs.take n) bs ∧ as = bs ++ cs
  | _, _, as, 0, r => ⟨[], as, by simpa using Reps.nil, rfl⟩
  | _, _, _, _ + 1, .nil => ⟨[], [], by simpa using Reps.nil, rfl⟩
  | _, _, _, n + 1, .cons (as := a) (bs := b) r rs => by
    obtain ⟨bs, cs, h1, h2⟩ := Reps.take n rs
    exact ⟨a ++ bs, cs, .cons r h1, by rw [h2, List.append_assoc]⟩
theorem Reps.drop {H : Hp} : ∀ {xs : List D} {vs : List V} {as : List Addr} (n : Nat), Reps H xs vs as → ∃ bs cs, Reps H (xs.drop n) (vs.drop n) bs ∧ as = cs ++ bs
  | _, _, as, 0, r => ⟨as, [], r, rfl⟩
  | _, _, _, _ + 1, .nil => ⟨[], [], .nil, rfl⟩
  | _, _, _, n + 1, .cons (as := a) (bs := b) r rs => by
    obtain ⟨bs, cs, h1, h2⟩ := Reps.drop n rs
    exact ⟨bs, a ++ cs, h1, by rw [h2, List.append_assoc]⟩
theorem noLs_append (xs ys : List D) : noLs (xs ++ ys) = (noLs xs && noLs ys) := by
  induction xs with
  | nil => simp [noLs]
  | cons x xs ih => simp [noLs, ih, Bool.and_assoc]
def toInts : List D → Option (List Int)
  | [] => some []
  | .int i :: r => match toInts r with
    | some l => some (i :: l)
    | none => none
  | _ :: _ => none
theorem toInts_map (ns : List Int) : toInts (ns.map D.int) = some ns := by
  induction ns with
  | nil => rfl
  | cons n ns ih => simp [toInts, ih]
theorem toInts_eq : ∀ {xs : List D} {ns : List Int}, toInts xs = some ns → xs = ns.map D.int
  | [], ns, h => by simp [toInts] at h; subst h; rfl
  | x :: xs, ns, h => by
    cases x <;> simp only [toInts] at h <;> try cases h
    rename_i i
    cases e : toInts xs with
    | none => rw [e] at h; cases h
    | some l =>
      rw [e] at h; cases h
      rw [toInts_eq e]; rfl
theorem Reps.ints {H : Hp} : ∀ {ns : List Int} {vs : List V} {as : List Addr}, Reps H (ns.map D.int) vs as → vs = ns.map V.int ∧ as = []
  | [], _, _, .nil => ⟨rfl, rfl⟩
  | n :: ns, _, _, .cons r rs => by
    obtain ⟨h1, h2⟩ := Reps.ints rs
    cases r
    rw [h1, h2]; exact ⟨rfl, rfl⟩
theorem reps_ints (H : Hp) : ∀ (ns : List Int), Reps H (ns.map D.int) (ns.map V.int) []
  | [] => .nil
  | n :: ns => .cons (as := []) (bs := []) (.int n) (reps_ints H ns)
def toBls : List D → Option (List Bool)
  | [] => some []
  | .bl i :: r => match toBls r with
    | some l => some (i :: l)
    | none => none
  | _ :: _ => none
theorem toBls_map (ns : List Bool) : toBls (ns.map D.bl) = some ns := by
  induction ns with
  | nil => rfl
  | cons n ns ih => simp [toBls, ih]
theorem Reps.bls {H : Hp} : ∀ {xs : List D} {ns : List Bool} {vs : List V} {as : List Addr}, toBls xs = some ns → Reps H xs vs as → vs = ns.map V.bl
  | [], ns, _, _, h, .nil => by simp [toBls] at h; subst h; rfl
  | x :: xs, ns, _, _, h, .cons r rs => by
    cases x <;> simp only [toBls] at h <;> try cases h
    cases e : toBls xs with
    | none => rw [e] at h; cases h
    | some l =>
      rw [e] at h; cases h
      rw [Reps.bls e rs]; cases r; rfl

/-! ### arithmetic -/
def szOk (n : Nat) : Bool := Nat.ble n 1000000
theorem szOk_le {n : Nat} (h : szOk n = true) : n ≤ sizeLine := by
  have h' : n ≤ 1000000 := Nat.le_of_ble_eq_true h
  rw [sizeLine_eq]; omega
theorem szOk_lt {n : Nat} (h : szOk n = true) : n < sizeLine := by
  have h' : n ≤ 1000000 := Nat.le_of_ble_eq_true h
  rw [sizeLine_eq]; omega
def dAdd : D → D → Option (Kd × D)
  | .int i, .int j => some (.new, .int (i + j))
  | .str a, .str b => if szOk (a.length + b.length) then some (.new, .str (a ++ b)) else none
  | .lst xs, .lst ys => if szOk (xs.length + ys.length) then some (if noLs xs && noLs ys then .new else .lin, .lst (xs ++ ys)) else none
  | .tup xs, .tup ys => if szOk (xs.length + ys.length) then some (if noLs xs && noLs ys then .new else .lin, .tup (xs ++ ys)) else none
  | _, _ => none
def rAddA (K : PySem.W.Frag) : R2 := fun x y H Q => rI0 (fun i j => .int (i + j)) x y H Q ∨ (∃ i j, x = .str i ∧ y = .str j ∧ i.length + j.length ≤ sizeLine ∧ Q (.str (i ++ j)) H) ∨ rCat x y H Q ∨ rCatF K x y H Q
theorem op_addA {X : Cx} : OpR X (binaryOp .Add) (rAddA X.K) := op_add.or (op_add_str.or (op_cat.or op_catF))
theorem nodup_mid {p : Addr} {as bs : List Addr} {a b : Addr} (h : ((a :: as) ++ (b :: bs)).Nodup) (hp : p ∉ as ++ bs) : (p :: (as ++ bs)).Nodup := by
  refine List.nodup_cons.mpr ⟨hp, ?_⟩
  have h1 : (as ++ (b :: bs)).Nodup := (List.nodup_cons.mp h).2
  exact h1.sublist (List.Sublist.append (List.Sublist.refl as) (List.sublist_cons_self b bs))
theorem Rep.newT {H : Hp} {p : Addr} {o : Obj} {xs : List D} {vs : List V} {as : List Addr} (hp : H p = none) (hd : o.dict = none) (r : Reps H xs vs as) : Rep (upd H p (.frz o (.tup vs))) (.tup xs) (.ref p) as := .tup upd_same hd (r.mono (Ex.new hp))
theorem Rep.newL {H : Hp} {p : Addr} {xs : List D} {vs : List V} {as : List Addr} (hp : H p = none) (r : Reps H xs vs as) : Rep (upd H p (.lst vs)) (.lst xs) (.ref p) (p :: as) := .lst upd_same (r.mono (Ex.new hp))
theorem v_add (K : PySem.W.Frag) : V2 (rAddA K) dAdd := by
  intro H x y v w as bs k d Q r1 r2 hf hq
  cases r1 with
  | int i =>
    cases r2 with
    | int j => simp only [dAdd, Option.some.injEq, Prod.mk.injEq] at hf; obtain ⟨rfl, rfl⟩ := hf; exact .inl ⟨i, j, rfl, rfl, hq _ H [] (Ex.refl H) (.int _) KdOk.nil⟩
    | _ => simp [dAdd] at hf
  | str i =>
    cases r2 with
    | str j =>
      simp only [dAdd] at hf
      split at hf
      · rename_i hz
        simp only [Option.some.injEq, Prod.mk.injEq] at hf; obtain ⟨rfl, rfl⟩ := hf
        exact .inr (.inl ⟨i, j, rfl, rfl, szOk_le hz, hq _ H [] (Ex.refl H) (.str _) KdOk.nil⟩)
      · cases hf
    | _ => simp [dAdd] at hf
  | @lst a vs xs as' h1 s1 =>
    cases r2 with
    | @lst b ws ys bs' h2 s2 =>
      simp only [dAdd] at hf
      split at hf
      · rename_i hz
        simp only [Option.some.injEq, Prod.mk.injEq] at hf; obtain ⟨rfl, rfl⟩ := hf
        have l1 := s1.length
        have l2 := s2.length
        refine .inr (.inr (.inl ⟨a, b, vs, ws, rfl, rfl, h1, h2, by rw [← l1, ← l2]; exact szOk_le hz, fun p hp => ?_⟩))
        have hpn : p ∉ as' ++ bs' := fun m => (List.mem_append.mp m).elim (fun z => s1.ne p z hp) fun z => s2.ne p z hp
        refine hq _ _ (p :: (as' ++ bs')) (Ex.new hp) (.newL hp (s1.append s2)) ?_
        split
        · rename_i hn
          rw [Bool.and_eq_true] at hn
          rw [s1.noL hn.1, s2.noL hn.2]
          exact .mk1 ⟨by simp, fun c hc => by simp at hc; rw [hc]; exact hp⟩
        · refine .mk2 (fun c hc => ?_) fun hnd => nodup_mid hnd hpn
          rcases List.mem_cons.mp hc with e | hc
          · rw [e]; exact .inl hp
          · refine .inr ?_
            rcases List.mem_append.mp hc with z | z
            · exact List.mem_append_left _ (List.mem_cons_of_mem _ z)
            · exact List.mem_append_right _ (List.mem_cons_of_mem _ z)
      · cases hf
    | _ => simp [dAdd] at hf
  | @tup a o vs xs _ h1 d1 s1 =>
    cases r2 with
    | @tup b o2 ws ys _ h2 d2 s2 =>
      simp only [dAdd] at hf
      split at hf
      · rename_i hz
        simp only [Option.some.injEq, Prod.mk.injEq] at hf; obtain ⟨rfl, rfl⟩ := hf
        have l1 := s1.length
        have l2 := s2.length
        have kk : ∀ {k : Kd}, k = (if (noLs xs && noLs ys) = true then Kd.new else Kd.lin) → KdOk k H (as ++ bs) (as ++ bs) := fun {k} e => by
          subst e
          split
          · rename_i hn
            rw [Bool.and_eq_true] at hn
            rw [s1.noL hn.1, s2.noL hn.2]
            exact KdOk.nil
          · exact .mk2 (fun c hc => .inr hc) fun hnd => hnd
        refine .inr (.inr (.inr ⟨a, b, vs, ws, rfl, rfl, SqT.frz h1, SqT.frz h2, by rw [← l1, ← l2]; exact szOk_le hz, fun e => ?_, fun e1 e2 => ?_, fun _ _ p o hp hd => ?_⟩))
        · subst e
          cases s1
          exact hq _ H bs (Ex.refl H) (by simpa using Rep.tup h2 d2 s2) (kk rfl)
        · subst e2
          cases s2
          have : KdOk (if (noLs xs && noLs []) = true then Kd.new else Kd.lin) H (as ++ []) as := by simpa using kk rfl
          exact hq _ H as (Ex.refl H) (by simpa using Rep.tup h1 d1 s1) this
        · exact hq _ _ (as ++ bs) (Ex.new hp) (.newT hp hd (s1.append s2)) (kk rfl)
      · cases hf
    | _ => simp [dAdd] at hf
  | _ => simp [dAdd] at hf

/-- two ints to a thing without nodes -/
theorem v_int {C : Int → Int → Prop} {g : Int → Int → Int} {r : R2} {f : D → D → Option (Kd × D)} (hr : ∀ i j H Q, C i j → Q (.int (g i j)) H → r (.int i) (.int j) H Q)
    (hf : ∀ x y k d, f x y = some (k, d) → ∃ i j, x = .int i ∧ y = .int j ∧ C i j ∧ k = .new ∧ d = .int (g i j)) : V2 r f := by
  intro H x y v w as bs k d Q r1 r2 e hq
  obtain ⟨i, j, rfl, rfl, hc, rfl, rfl⟩ := hf _ _ _ _ e
  cases r1
  cases r2
  exact hr i j H Q hc (hq _ H [] (Ex.refl H) (.int _) KdOk.nil)
theorem v_intB {C : Int → Int → Prop} {g : Int → Int → Bool} {r : R2} {f : D → D → Option (Kd × D)} (hr : ∀ i j H Q, C i j → Q (.bl (g i j)) H → r (.int i) (.int j) H Q)
    (hf : ∀ x y k d, f x y = some (k, d) → ∃ i j, x = .int i ∧ y = .int j ∧ C i j ∧ k = .new ∧ d = .bl (g i j)) : V2 r f := by
  intro H x y v w as bs k d Q r1 r2 e hq
  obtain ⟨i, j, rfl, rfl, hc, rfl, rfl⟩ := hf _ _ _ _ e
  cases r1
  cases r2
  exact hr i j H Q hc (hq _ H [] (Ex.refl H) (.bl _) KdOk.nil)
def dSub : D → D → Option (Kd × D)
  | .int i, .int j => some (.new, .int (i - j))
  | _, _ => none
theorem v_sub : V2 (rI0 fun i j => .int (i - j)) dSub := v_int (C := fun _ _ => True) (g := fun i j => i - j) (fun i j H Q _ q => ⟨i, j, rfl, rfl, q⟩) fun x y k d e => by
  cases x <;> cases y <;> simp only [dSub] at e <;> cases e
  exact ⟨_, _, rfl, rfl, True.intro, rfl, rfl⟩
def mulOk (i j : Int) : Bool := decide (i.natAbs < 18446744073709551616) || decide (j.natAbs < 18446744073709551616) || decide (i.natAbs.log2 + j.natAbs.log2 < 1000000)
def dMul : D → D → Option (Kd × D)
  | .int i, .int j => if mulOk i j then some (.new, .int (i * j)) else none
  | _, _ => none
def rMulA : R2 := fun x y H Q => rI CMul (fun i j => .int (i * j)) x y H Q ∨ rI CMulW (fun i j => .int (i * j)) x y H Q
theorem op_mulA {X : Cx} : OpR X (binaryOp .Mult) rMulA := op_mul.or op_mulW
theorem v_mul : V2 rMulA dMul := v_int (C := fun i j => mulOk i j = true) (g := fun i j => i * j) (fun i j H Q hc q => by
    unfold mulOk at hc
    simp only [Bool.or_eq_true, decide_eq_true_eq] at hc
    rcases hc with (hc | hc) | hc
    · exact .inl ⟨i, j, rfl, rfl, .inl ⟨by omega, by omega⟩, q⟩
    · exact .inl ⟨i, j, rfl, rfl, .inr ⟨by omega, by omega⟩, q⟩
    · exact .inr ⟨i, j, rfl, rfl, hc, q⟩) fun x y k d e => by
  cases x <;> cases y <;> simp only [dMul] at e <;> try cases e
  split at e
  · rename_i h; cases e; exact ⟨_, _, rfl, rfl, h, rfl, rfl⟩
  · cases e
def dDiv : D → D → Option (Kd × D)
  | .int i, .int j => if decide (0 < j) && decide (j.natAbs.log2 < 9000) then some (.new, .int (i / j)) else none
  | _, _ => none
theorem v_div : V2 (rI CDivW fun i j => .int (i / j)) dDiv := v_int (C := CDivW) (g := fun i j => i / j) (fun i j H Q hc q => ⟨i, j, rfl, rfl, hc, q⟩) fun x y k d e => by
  cases x <;> cases y <;> simp only [dDiv] at e <;> try cases e
  split at e
  · rename_i h; cases e; simp only [Bool.and_eq_true, decide_eq_true_eq] at h; exact ⟨_, _, rfl, rfl, h, rfl, rfl⟩
  · cases e
def dMod : D → D → Option (Kd × D)
  | .int i, .int j => if decide (0 < j) then some (.new, .int (i % j)) else none
  | _, _ => none
theorem v_mod : V2 (rI (fun _ j => 0 < j) fun i j => .int (i % j)) dMod := v_int (C := fun _ j => 0 < j) (g := fun i j => i % j) (fun i j H Q hc q => ⟨i, j, rfl, rfl, hc, q⟩) fun x y k d e => by
  cases x <;> cases y <;> simp only [dMod] at e <;> try cases e
  split at e
  · rename_i h; cases e; exact ⟨_, _, rfl, rfl, of_decide_eq_true h, rfl, rfl⟩
  · cases e
def dPow : D → D → Option (Kd × D)
  | .int i, .int j => if decide (0 ≤ j) && decide (j ≤ 1000000) && decide (i.natAbs < 18446744073709551616) then some (.new, .int (i ^ j.toNat)) else none
  | _, _ => none
theorem v_pow : V2 (rI CPow fun i j => .int (i ^ j.toNat)) dPow := v_int (C := CPow) (g := fun i j => i ^ j.toNat) (fun i j H Q hc q => ⟨i, j, rfl, rfl, hc, q⟩) fun x y k d e => by
  cases x <;> cases y <;> simp only [dPow] at e <;> try cases e
  split at e
  · rename_i h; cases e; simp only [Bool.and_eq_true, decide_eq_true_eq] at h; exact ⟨_, _, rfl, rfl, ⟨h.1.1, h.1.2, h.2⟩, rfl, rfl⟩
  · cases e

/-! ### comparisons of ints -/
def dLt : D → D → Option (Kd × D)
  | .int i, .int j => some (.new, .bl (decide (i < j)))
  | _, _ => none
def dLe : D → D → Option (Kd × D)
  | .int i, .int j => some (.new, .bl (decide (i ≤ j)))
  | _, _ => none
def dGt : D → D → Option (Kd × D)
  | .int i, .int j => some (.new, .bl (decide (j < i)))
  | _, _ => none
def dGe : D → D → Option (Kd × D)
  | .int i, .int j => some (.new, .bl (decide (j ≤ i)))
  | _, _ => none
theorem v_lt : V2 (rI0 fun i j => .bl (decide (i < j))) dLt := v_intB (C := fun _ _ => True) (g := fun i j => decide (i < j)) (fun i j H Q _ q => ⟨i, j, rfl, rfl, q⟩) fun x y k d e => by
  cases x <;> cases y <;> simp only [dLt] at e <;> cases e
  exact ⟨_, _, rfl, rfl, True.intro, rfl, rfl⟩
theorem v_le : V2 (rI0 fun i j => .bl (decide (i ≤ j))) dLe := v_intB (C := fun _ _ => True) (g := fun i j => decide (i ≤ j)) (fun i j H Q _ q => ⟨i, j, rfl, rfl, q⟩) fun x y k d e => by
  cases x <;> cases y <;> simp only [dLe] at e <;> cases e
  exact ⟨_, _, rfl, rfl, True.intro, rfl, rfl⟩
theorem v_gt : V2 (rI0 fun i j => .bl (decide (j < i))) dGt := v_intB (C := fun _ _ => True) (g := fun i j => decide (j < i)) (fun i j H Q _ q => ⟨i, j, rfl, rfl, q⟩) fun x y k d e => by
  cases x <;> cases y <;> simp only [dGt] at e <;> cases e
  exact ⟨_, _, rfl, rfl, True.intro, rfl, rfl⟩
theorem v_ge : V2 (rI0 fun i j => .bl (decide (j ≤ i))) dGe := v_intB (C := fun _ _ => True) (g := fun i j => decide (j ≤ i)) (fun i j H Q _ q => ⟨i, j, rfl, rfl, q⟩) fun x y k d e => by
  cases x <;> cases y <;> simp only [dGe] at e <;> cases e
  exact ⟨_, _, rfl, rfl, True.intro, rfl, rfl⟩

/-! ### == of any data -/
mutual
def dat : D → PyData
  | .non => .none
  | .bl b => .bool b
  | .int i => .int i
  | .str s => .str s
  | .tup xs => .tuple (dats xs)
  | .tp0 xs => .tuple (dats xs)
  | .lst xs => .list (dats xs)
  | .frz xs => .list (dats xs)
  | .dic _ _ => .dict []
  | .exc _ _ _ => .dict []
def dats : List D → List PyData
  | [] => []
  | x :: xs => dat x :: dats xs
end
mutual
theorem Rep.dp {K : PySem.W.Frag} {H : Hp} : ∀ {d : D} {v : V} {as : List Addr}, Rep H d v as → (dat d).canLay0 = true → Dp K H v (dat d)
  | _, _, _, .non, _ => .non
  | _, _, _, .bl b, _ => .bl b
  | _, _, _, .int i, _ => .int i
  | _, _, _, .str i, _ => .str i
  | _, _, _, .tup h _ r, c => .tup (SqT.frz h) (Reps.dp r (by simpa [dat, PyData.canLay0] using c))
  | _, _, _, .tp0 h r, c => .tup (.inl (.inl h)) (Reps.dp r (by simpa [dat, PyData.canLay0] using c))
  | _, _, _, .lst h r, c => .lst (SqL.of h) (Reps.dp r (by simpa [dat, PyData.canLay0] using c))
  | _, _, _, .frz h r, c => .lst (SqL.frz h) (Reps.dp r (by simpa [dat, PyData.canLay0] using c))
  | _, _, _, .dic _ _ _ _, c => by simp [dat, PyData.canLay0] at c
  | _, _, _, .exc _ _ _ _ _, c => by simp [dat, PyData.canLay0] at c
  | _, _, _, .excF _ _ _ _ _ _ _ _, c => by simp [dat, PyData.canLay0] at c
theorem Reps.dp {K : PySem.W.Frag} {H : Hp} : ∀ {ds : List D} {vs : List V} {as : List Addr}, Reps H ds vs as → PyData.canLayAll0 (dats ds) = true → DpAll K H vs (dats ds)
  | _, _, _, .nil, _ => .nil
  | _, _, _, .cons r rs, c => by
    simp only [dats, PyData.canLayAll0, Bool.and_eq_true] at c
    exact .cons (Rep.dp r c.1) (Reps.dp rs c.2)
end
theorem lay_of {x : PyData} (h : SeqAt.shaped x = true) : x.canLay0 = true := by
  unfold SeqAt.shaped at h
  rw [Bool.and_eq_true] at h
  exact h.1
def eqOk (x : D) : Bool := SeqAt.shaped (dat x)
def dEq (x y : D) : Option (Kd × D) := if eqOk x && eqOk y then some (.new, .bl (PyData.eqv (dat x) (dat y))) else none
def dNe (x y : D) : Option (Kd × D) := if eqOk x && eqOk y then some (.new, .bl (!PyData.eqv (dat x) (dat y))) else none
theorem v_eq (K : PySem.W.Frag) : V2 (rEqD K) dEq := by
  intro H x y v w as bs k d Q r1 r2 hf hq
  unfold dEq at hf
  split at hf
  · rename_i h
    cases hf
    rw [Bool.and_eq_true] at h
    exact ⟨dat x, dat y, r1.dp (lay_of h.1), r2.dp (lay_of h.2), h.1, h.2, hq _ H [] (Ex.refl H) (.bl _) KdOk.nil⟩
  · cases hf
theorem v_ne (K : PySem.W.Frag) : V2 (rNeD K) dNe := by
  intro H x y v w as bs k d Q r1 r2 hf hq
  unfold dNe at hf
  split at hf
  · rename_i h
    cases hf
    rw [Bool.and_eq_true] at h
    exact ⟨dat x, dat y, r1.dp (lay_of h.1), r2.dp (lay_of h.2), h.1, h.2, hq _ H [] (Ex.refl H) (.bl _) KdOk.nil⟩
  · cases hf
/-- is None, is not None -/
def isNon : D → Bool
  | .non => true
  | _ => false
def dIs (x y : D) : Option (Kd × D) := match y with
  | .non => some (.new, .bl (isNon x))
  | _ => none
def dIsNot (x y : D) : Option (Kd × D) := match y with
  | .non => some (.new, .bl (!isNon x))
  | _ => none
theorem Rep.isNon {H : Hp} {d : D} {v : V} {as : List Addr} (r : Rep H d v as) : decide (v = V.non) = CB.isNon d := by cases r <;> simp [CB.isNon]
theorem v_is : V2 (fun x y H Q => y = .non ∧ Q (.bl (decide (x = .non))) H) dIs := by
  intro H x y v w as bs k d Q r1 r2 hf hq
  cases r2 <;> simp only [dIs] at hf <;> cases hf
  refine ⟨rfl, ?_⟩
  rw [r1.isNon]
  exact hq _ H [] (Ex.refl H) (.bl _) KdOk.nil
theorem v_isnot : V2 (fun x y H Q => y = .non ∧ Q (.bl (!decide (x = .non))) H) dIsNot := by
  intro H x y v w as bs k d Q r1 r2 hf hq
  cases r2 <;> simp only [dIsNot] at hf <;> cases hf
  refine ⟨rfl, ?_⟩
  rw [r1.isNon]
  exact hq _ H [] (Ex.refl H) (.bl _) KdOk.nil

/-! ### an item -/
def dIx : D → D → Option (Kd × D)
  | .lst xs, .int i => match atI xs i with
    | some d => some (if noL d then .new else .lin, d)
    | none => none
  | .frz xs, .int i => match atI xs i with
    | some d => some (if noL d then .new else .lin, d)
    | none => none
  | .tup xs, .int i => match atI xs i with
    | some d => some (if noL d then .new else .lin, d)
    | none => none
  | _, _ => none
theorem Reps.atI {H : Hp} {xs : List D} {vs : List V} {as : List Addr} {i : Int} {d : D} (r : Reps H xs vs as) (h : L2.atI xs i = some d) : ∃ v bs cs es, L2.atI vs i = some v ∧ Rep H d v bs ∧ as = cs ++ bs ++ es := by
  unfold L2.atI at h ⊢
  rw [r.length] at h
  cases e : ixN vs.length i with
  | none => rw [e] at h; cases h
  | some j =>
    rw [e] at h
    exact r.get h
theorem kd_sub {H : Hp} {d : D} {v : V} {as bs cs es : List Addr} (r : Rep H d v bs) (e : as = cs ++ bs ++ es) (more : List Addr) : KdOk (if noL d = true then Kd.new else Kd.lin) H (more ++ as) bs := by
  split
  · rename_i h; rw [r.noL h]; exact KdOk.nil
  · refine .mk2 (fun a ha => .inr ?_) fun hn => ?_
    · rw [e]
      exact List.mem_append_right _ (List.mem_append_left _ (List.mem_append_right _ ha))
    · rw [e] at hn
      have h1 : (cs ++ bs ++ es).Nodup := (List.nodup_append.mp hn).2.1
      have h2 := (List.nodup_append.mp h1).1
      exact (List.nodup_append.mp h2).2.1
def rIxA (K : PySem.W.Frag) : R2 := rIx K
theorem v_ix (K : PySem.W.Frag) : V2 (rIx K) dIx := by
  intro H x y v w as bs k d Q r1 r2 hf hq
  cases r2 with
  | int i =>
    cases r1 with
    | @lst a vs xs as' h1 s1 =>
      simp only [dIx] at hf
      split at hf
      · rename_i d' hd
        cases hf
        obtain ⟨v, bs, cs, es, e1, e2, e3⟩ := s1.atI hd
        refine .inl ⟨a, vs, i, v, rfl, rfl, SqL.of h1, e1, hq _ H bs (Ex.refl H) e2 ?_⟩
        have := kd_sub e2 e3 [a]
        simpa using this
      · cases hf
    | @frz a o vs xs h1 s1 =>
      simp only [dIx] at hf
      split at hf
      · rename_i d' hd
        cases hf
        obtain ⟨v, bs, cs, es, e1, e2, e3⟩ := s1.atI hd
        refine .inl ⟨a, vs, i, v, rfl, rfl, SqL.frz h1, e1, hq _ H bs (Ex.refl H) e2 ?_⟩
        have := kd_sub e2 e3 []
        simpa using this
      · cases hf
    | @tup a o vs xs _ h1 d1 s1 =>
      simp only [dIx] at hf
      split at hf
      · rename_i d' hd
        cases hf
        obtain ⟨v, bs, cs, es, e1, e2, e3⟩ := s1.atI hd
        refine .inr (.inl ⟨a, vs, i, v, rfl, rfl, SqT.frz h1, e1, hq _ H bs (Ex.refl H) e2 ?_⟩)
        have := kd_sub e2 e3 []
        simpa using this
      · cases hf
    | _ => simp [dIx] at hf
  | _ => cases r1 <;> simp [dIx] at hf
end CB

namespace CB
open PySem L2 PySem.Spec PyProof.Rows
variable [CT]

section
variable {X : Cx} {E : XK}
/-! ### and, or, not, if-expressions -/
def andP (a b : P) : P := fun env => (a env).bind fun _ x => match x with
  | .bl true => b env
  | .bl false => .ok true (.bl false)
  | _ => .no
def orP (a b : P) : P := fun env => (a env).bind fun _ x => match x with
  | .bl true => .ok true (.bl true)
  | .bl false => b env
  | _ => .no
def notP (a : P) : P := fun env => (a env).bind fun _ x => match x with
  | .bl b => .ok true (.bl (!b))
  | _ => .no
def ifP (c a b : P) : P := fun env => (c env).bind fun _ x => match x with
  | .bl true => a env
  | .bl false => b env
  | _ => .no
/-- the first part, then by its truth -/
theorem bl_step {e : Expr} {p : P} {k : Bool → PR} (h : SndP X E e p) : ∃ t, PE X e t ∧ ∀ (S : Addr → Prop) env σ H (Q : VK) (R : Bool → Hp → Prop), ObsEnv S H env σ → PWant S X.mg H Q E ((p env).bind fun _ x => match x with | .bl b => k b | _ => .no) →
    (∀ b H', Ex H H' → PWant S X.mg H' Q E (k b) → R b H') → t σ H fun x H' => ∃ c, x = .bl c ∧ R c H' := by
  obtain ⟨t, h1, h2⟩ := h
  refine ⟨t, h1, fun S env σ H Q R o w kk => h2 S env σ H _ o ?_⟩
  cases hp : p env with
  | no => rw [hp] at w; exact w
  | ex x => rw [hp] at w; exact w
  | ok f d =>
    rw [hp] at w
    cases d with
    | bl b =>
      intro v H' as e r _ _
      cases r
      exact ⟨b, rfl, kk b H' e (PWant.mono w e)⟩
    | _ => exact (show False from w).elim
theorem ite_bl {α : Type} {b : Bool} {f g : α} {h : α} : (match (D.bl b) with | .bl true => f | .bl false => g | _ => h) = if b = true then f else g := by cases b <;> rfl
theorem snd_and {e1 e2 : Expr} {rest : List Expr} {p1 p2 : P} {pos : Pos} (h1 : SndP X E e1 p1) (h2 : SndP X E (.BoolOp .And (e2 :: rest) pos) p2) : SndP X E (.BoolOp .And (e1 :: e2 :: rest) pos) (andP p1 p2) := by
  obtain ⟨t, g1, s1⟩ := h1
  obtain ⟨u, g2, s2⟩ := h2
  refine ⟨_, pe_and g1 g2, fun S env σ H Q o w => s1 S env σ H _ o ?_⟩
  unfold andP at w
  cases hp : p1 env with
  | no => rw [hp] at w; exact w
  | ex x => rw [hp] at w; exact w
  | ok f d =>
    rw [hp] at w
    intro v H1 as e r _ _
    cases r with
    | bl b =>
      refine ⟨b, rfl, ?_⟩
      cases b with
      | true => exact iteT (s2 S env σ H1 Q (o.mono e) (PWant.mono w e))
      | false => exact iteF (w (.bl false) H1 [] e (.bl false) noMem fun _ => .nil H)
    | _ => exact (show False from w).elim
theorem snd_or {e1 e2 : Expr} {rest : List Expr} {p1 p2 : P} {pos : Pos} (h1 : SndP X E e1 p1) (h2 : SndP X E (.BoolOp .Or (e2 :: rest) pos) p2) : SndP X E (.BoolOp .Or (e1 :: e2 :: rest) pos) (orP p1 p2) := by
  obtain ⟨t, g1, s1⟩ := h1
  obtain ⟨u, g2, s2⟩ := h2
  refine ⟨_, pe_or g1 g2, fun S env σ H Q o w => s1 S env σ H _ o ?_⟩
  unfold orP at w
  cases hp : p1 env with
  | no => rw [hp] at w; exact w
  | ex x => rw [hp] at w; exact w
  | ok f d =>
    rw [hp] at w
    intro v H1 as e r _ _
    cases r with
    | bl b =>
      refine ⟨b, rfl, ?_⟩
      cases b with
      | true => exact iteT (w (.bl true) H1 [] e (.bl true) noMem fun _ => .nil H)
      | false => exact iteF (s2 S env σ H1 Q (o.mono e) (PWant.mono w e))
    | _ => exact (show False from w).elim
theorem snd_one {e1 : Expr} {op : BoolOp} {p1 : P} {pos : Pos} (h1 : SndP X E e1 p1) : SndP X E (.BoolOp op [e1] pos) p1 := by
  obtain ⟨t, g1, s1⟩ := h1
  exact ⟨_, pe_one g1, s1⟩
theorem snd_not {e1 : Expr} {p1 : P} {pos : Pos} (h1 : SndP X E e1 p1) : SndP X E (.UnaryOp .Not e1 pos) (notP p1) := by
  obtain ⟨t, g1, s1⟩ := h1
  refine ⟨_, pe_not g1, fun S env σ H Q o w => s1 S env σ H _ o ?_⟩
  unfold notP at w
  cases hp : p1 env with
  | no => rw [hp] at w; exact w
  | ex x => rw [hp] at w; exact w
  | ok f d =>
    rw [hp] at w
    intro v H1 as e r _ _
    cases r with
    | bl b => exact ⟨b, rfl, w (.bl (!b)) H1 [] e (.bl _) noMem fun _ => .nil H⟩
    | _ => exact (show False from w).elim
theorem snd_if {c a b : Expr} {pc pa pb : P} {pos : Pos} (hc : SndT X E c pc) (ha : SndP X E a pa) (hb : SndP X E b pb) : SndP X E (.IfExp c a b pos) (ifP pc pa pb) := by
  obtain ⟨t, g1, s1⟩ := hc
  obtain ⟨u, g2, s2⟩ := ha
  obtain ⟨z, g3, s3⟩ := hb
  refine ⟨_, pe_ifExp g1 g2 g3, fun S env σ H Q o w => s1 S env σ H _ o ?_⟩
  unfold ifP at w
  cases hp : pc env with
  | no => rw [hp] at w; exact w
  | ex x => rw [hp] at w; exact w
  | ok f d =>
    rw [hp] at w
    cases d with
    | bl b =>
      intro H1 e
      cases b with
      | true => exact iteT (s2 S env σ H1 Q (o.mono e) (PWant.mono w e))
      | false => exact iteF (s3 S env σ H1 Q (o.mono e) (PWant.mono w e))
    | _ => exact (show False from w).elim
/-! tests -/
def SndW (X : Cx) (E : XK) (e : Expr) (p : P) : Prop := ∃ t, PW X e t ∧ ∀ (S : Addr → Prop) env σ H Q, ObsEnv S H env σ → TWant X.mg H Q E (p env) → t σ H Q
theorem SndW.t {e : Expr} {p : P} (h : SndW X E e p) : SndT X E e p := let ⟨t, a, b⟩ := h; ⟨t, a.pt, b⟩
theorem TWant.mono {mg : Str → Option Value} {H H1 : Hp} {Q : Bool → Hp → Prop} {r : PR} (w : TWant mg H Q E r) (e : Ex H H1) : TWant mg H1 Q E r := by
  cases r with
  | ok f d =>
    cases d with
    | bl b => exact fun H' e' => w H' (e.trans e')
    | _ => exact w
  | ex x => exact fun c dx H' e' r => w c dx H' (e.trans e') r
  | no => exact w
theorem sndw_one {e1 : Expr} {p1 : P} {pos : Pos} (op : Bool) (h1 : SndT X E e1 p1) : SndW X E (.BoolOp (if op then .And else .Or) [e1] pos) p1 := by
  obtain ⟨t, g1, s1⟩ := h1
  cases op with
  | true => exact ⟨_, pw_and1 g1, s1⟩
  | false => exact ⟨_, pw_or1 g1, s1⟩
theorem sndw_and1 {e1 : Expr} {p1 : P} {pos : Pos} (h1 : SndT X E e1 p1) : SndW X E (.BoolOp .And [e1] pos) p1 := let ⟨_, g1, s1⟩ := h1; ⟨_, pw_and1 g1, s1⟩
theorem sndw_or1 {e1 : Expr} {p1 : P} {pos : Pos} (h1 : SndT X E e1 p1) : SndW X E (.BoolOp .Or [e1] pos) p1 := let ⟨_, g1, s1⟩ := h1; ⟨_, pw_or1 g1, s1⟩
theorem sndw_and {e1 e2 : Expr} {rest : List Expr} {p1 p2 : P} {pos : Pos} (h1 : SndT X E e1 p1) (h2 : SndW X E (.BoolOp .And (e2 :: rest) pos) p2) : SndW X E (.BoolOp .And (e1 :: e2 :: rest) pos) (andP p1 p2) := by
  obtain ⟨t, g1, s1⟩ := h1
  obtain ⟨u, g2, s2⟩ := h2
  refine ⟨_, pw_and g1 g2, fun S env σ H Q o w => s1 S env σ H _ o ?_⟩
  unfold andP at w
  cases hp : p1 env with
  | no => rw [hp] at w; exact w
  | ex x => rw [hp] at w; exact w
  | ok f d =>
    rw [hp] at w
    cases d with
    | bl b =>
      intro H1 e
      cases b with
      | true => exact iteT (s2 S env σ H1 Q (o.mono e) (TWant.mono w e))
      | false => exact iteF (w H1 e)
    | _ => exact (show False from w).elim
theorem sndw_or {e1 e2 : Expr} {rest : List Expr} {p1 p2 : P} {pos : Pos} (h1 : SndT X E e1 p1) (h2 : SndW X E (.BoolOp .Or (e2 :: rest) pos) p2) : SndW X E (.BoolOp .Or (e1 :: e2 :: rest) pos) (orP p1 p2) := by
  obtain ⟨t, g1, s1⟩ := h1
  obtain ⟨u, g2, s2⟩ := h2
  refine ⟨_, pw_or g1 g2, fun S env σ H Q o w => s1 S env σ H _ o ?_⟩
  unfold orP at w
  cases hp : p1 env with
  | no => rw [hp] at w; exact w
  | ex x => rw [hp] at w; exact w
  | ok f d =>
    rw [hp] at w
    cases d with
    | bl b =>
      intro H1 e
      cases b with
      | true => exact iteT (w H1 e)
      | false => exact iteF (s2 S env σ H1 Q (o.mono e) (TWant.mono w e))
    | _ => exact (show False from w).elim
theorem sndt_not {e1 : Expr} {p1 : P} {pos : Pos} (h1 : SndT X E e1 p1) : SndT X E (.UnaryOp .Not e1 pos) (notP p1) := by
  obtain ⟨t, g1, s1⟩ := h1
  refine ⟨_, pt_not g1, fun S env σ H Q o w => s1 S env σ H _ o ?_⟩
  unfold notP at w
  cases hp : p1 env with
  | no => rw [hp] at w; exact w
  | ex x => rw [hp] at w; exact w
  | ok f d =>
    rw [hp] at w
    cases d with
    | bl b => exact fun H1 e => w H1 e
    | _ => exact (show False from w).elim

/-! ### chains: a < b < c -/
def chP (f g : D → D → Option (Kd × D)) (a b c : P) : P := fun env => (a env).bind fun _ x => (b env).bind fun _ y => match f x y with
  | some (_, .bl true) => (c env).bind fun _ z => match g y z with
    | some (_, .bl k) => .ok true (.bl k)
    | _ => .no
  | some (_, .bl false) => .ok true (.bl false)
  | _ => .no
theorem chain_core {a b c : Expr} {pa pb pc : P} {r r' : R2} {f g : D → D → Option (Kd × D)} (hv : V2 r f) (hv' : V2 r' g) (ha : SndP X E a pa) (hb : SndP X E b pb) (hc : SndP X E c pc) :
    ∃ ta tb tc, PE X a ta ∧ PE X b tb ∧ PE X c tc ∧ ∀ (S : Addr → Prop) env σ H Q, ObsEnv S H env σ → PWant S X.mg H Q E (chP f g pa pb pc env) → tChain r r' ta tb tc σ H Q := by
  obtain ⟨ta, a1, a2⟩ := ha
  obtain ⟨tb, b1, b2⟩ := hb
  obtain ⟨tc, c1, c2⟩ := hc
  refine ⟨ta, tb, tc, a1, b1, c1, fun S env σ H Q o w => a2 S env σ H _ o ?_⟩
  unfold chP at w
  cases hp : pa env with
  | no => rw [hp] at w; exact w
  | ex x => rw [hp] at w; exact w
  | ok fa x =>
    rw [hp] at w
    intro v H1 as e1 r1 _ _
    refine b2 S env σ H1 _ (o.mono e1) ?_
    cases hq : pb env with
    | no => rw [hq] at w; exact w
    | ex x => rw [hq] at w; exact fun c dx H' e' r => w c dx H' (e1.trans e') r
    | ok fb y =>
      rw [hq] at w
      intro v2 H2 bs e2 r2 _ _
      simp only [PR.bind] at w
      cases hf : f x y with
      | none => rw [hf] at w; exact w.elim
      | some kd =>
        obtain ⟨k, d⟩ := kd
        rw [hf] at w
        refine hv H2 x y v v2 as bs k d _ (r1.mono e2) r2 hf fun z H3 cs e3 r3 _ => ?_
        cases r3 with
        | bl b =>
          refine ⟨b, rfl, ?_⟩
          cases b with
          | false => exact iteF (w _ H3 [] ((e1.trans e2).trans e3) (.bl false) noMem fun _ => .nil H)
          | true =>
            refine iteT (c2 S env σ H3 _ (o.mono ((e1.trans e2).trans e3)) ?_)
            cases hs : pc env with
            | no => rw [hs] at w; exact w
            | ex x => rw [hs] at w; exact fun c dx H' e' r => w c dx H' (((e1.trans e2).trans e3).trans e') r
            | ok fc z =>
              rw [hs] at w
              intro v3 H4 ds e4 r4 _ _
              simp only [PR.bind] at w
              cases hg : g y z with
              | none => rw [hg] at w; exact w.elim
              | some kd' =>
                obtain ⟨k', d'⟩ := kd'
                rw [hg] at w
                refine hv' H4 y z v2 v3 bs ds k' d' _ (r2.mono (e3.trans e4)) r4 hg fun z' H5 es e5 r5 _ => ?_
                cases r5 with
                | bl b => exact w _ H5 [] ((((e1.trans e2).trans e3).trans e4).trans e5) (.bl b) noMem fun _ => .nil H
                | _ => exact (show False from w).elim
        | _ => exact (show False from w).elim
theorem snd_chain {a b c : Expr} {pa pb pc : P} {op op' : CmpOp} {pos : Pos} {r r' : R2} {f g : D → D → Option (Kd × D)} (ho : OpR X (compareOp op) r) (ho' : OpR X (compareOp op') r') (hv : V2 r f) (hv' : V2 r' g) (ha : SndP X E a pa) (hb : SndP X E b pb) (hc : SndP X E c pc)
    (hm : lastMarks [op, op'] [b, c] = false := by with_unfolding_all rfl) : SndP X E (.Compare a [op, op'] [b, c] pos) (chP f g pa pb pc) := by
  obtain ⟨ta, tb, tc, a1, b1, c1, h⟩ := chain_core hv hv' ha hb hc
  exact ⟨_, pe_chain ho ho' a1 b1 c1 hm, h⟩
theorem sndt_chain {a b c : Expr} {pa pb pc : P} {op op' : CmpOp} {pos : Pos} {r r' : R2} {f g : D → D → Option (Kd × D)} (ho : OpR X (compareOp op) r) (ho' : OpR X (compareOp op') r') (hv : V2 r f) (hv' : V2 r' g) (ha : SndP X E a pa) (hb : SndP X E b pb) (hc : SndP X E c pc)
    (hm : lastMarks [op, op'] [b, c] = false := by with_unfolding_all rfl) : SndT X E (.Compare a [op, op'] [b, c] pos) (chP f g pa pb pc) := by
  obtain ⟨ta, tb, tc, a1, b1, c1, h⟩ := chain_core hv hv' ha hb hc
  exact ⟨_, pt_chain ho ho' a1 b1 c1 hm, fun S env σ H Q o w => h S env σ H _ o w.toP⟩

/-! ### slices -/
def cutA {α : Type} (xs : List α) (lo hi : Option Int) : List α := (xs.drop (HT.sIx xs.length 0 lo)).take (HT.sIx xs.length xs.length hi - HT.sIx xs.length 0 lo)
def cutK (xs : List D) (lo hi : Option Int) : Kd := if noLs xs then .new else .lin
def dSl : D → Option Int → Option Int → Option (Kd × D)
  | .lst xs, lo, hi => some (cutK xs lo hi, .lst (cutA xs lo hi))
  | .tup xs, lo, hi => some (cutK xs lo hi, .tup (cutA xs lo hi))
  | .str s, lo, hi => if szOk s.length then some (.new, .str (cutS s lo hi)) else none
  | _, _, _ => none
def slEnd (f : Bool) (x : D) (l u : Option Int) : PR := match dSl x l u with
  | some (k, d) => .ok (k.fl (gfl f x)) d
  | none => .no
def slHi (f : Bool) (x : D) (l : Option Int) (hi : Option P) (env : Env) : PR := match hi with
  | none => slEnd f x l none
  | some q => (q env).bind fun _ z => match z with
    | .int j => slEnd f x l (some j)
    | _ => .no
def sliceP (a : P) (lo hi : Option P) : P := fun env => (a env).bind fun f x => match lo with
  | none => slHi f x none hi env
  | some q => (q env).bind fun _ y => match y with
    | .int i => slHi f x (some i) hi env
    | _ => .no
def rSlAll (K : PySem.W.Frag) : V → Option Int → Option Int → Hp → VK → Prop := fun x lo hi H Q => rSlL K x lo hi H Q ∨ rSlF K x lo hi H Q ∨ rSlS x lo hi H Q
end
end CB

namespace CB
open PySem L2 PySem.Spec PyProof.Rows
variable [CT]

section
variable {X : Cx} {E : XK}
theorem Reps.cut {H : Hp} {xs : List D} {vs : List V} {as : List Addr} (r : Reps H xs vs as) (lo hi : Option Int) : ∃ bs cs es, Reps H (cutA xs lo hi) (cutV vs lo hi) bs ∧ as = cs ++ bs ++ es := by
  unfold cutA cutV
  rw [r.length]
  obtain ⟨bs, cs, h1, h2⟩ := r.drop (HT.sIx vs.length 0 lo)
  obtain ⟨bs', cs', h3, h4⟩ := h1.take (HT.sIx vs.length vs.length hi - HT.sIx vs.length 0 lo)
  exact ⟨bs', cs, cs', h3, by rw [h2, h4]; simp [List.append_assoc]⟩
theorem noLs_take : ∀ (xs : List D) (n : Nat), noLs xs = true → noLs (xs.take n) = true
  | _, 0, _ => by simp [noLs]
  | [], _ + 1, h => by simpa using h
  | x :: xs, n + 1, h => by simp only [noLs, List.take_succ_cons, Bool.and_eq_true] at h ⊢; exact ⟨h.1, noLs_take xs n h.2⟩
theorem noLs_drop : ∀ (xs : List D) (n : Nat), noLs xs = true → noLs (xs.drop n) = true
  | _, 0, h => h
  | [], _ + 1, h => by simpa using h
  | x :: xs, n + 1, h => by simp only [noLs, List.drop_succ_cons, Bool.and_eq_true] at h ⊢; exact noLs_drop xs n h.2
theorem noLs_cut {xs : List D} (lo hi : Option Int) (h : noLs xs = true) : noLs (cutA xs lo hi) = true := noLs_take _ _ (noLs_drop _ _ h)
theorem nodup_sub {as bs cs es : List Addr} (e : as = cs ++ bs ++ es) (h : as.Nodup) : bs.Nodup := by
  rw [e] at h
  exact (List.nodup_append.mp (List.nodup_append.mp h).1).2.1
theorem mem_sub {as bs cs es : List Addr} (e : as = cs ++ bs ++ es) {a : Addr} (h : a ∈ bs) : a ∈ as := by
  rw [e]; exact List.mem_append_left _ (List.mem_append_right _ h)
/-- a slice by values -/
theorem v_sl (K : PySem.W.Frag) {H : Hp} {x d : D} {v : V} {as : List Addr} {lo hi : Option Int} {k : Kd} {Q : VK} (r : Rep H x v as) (hf : dSl x lo hi = some (k, d)) (hq : ∀ u H' cs, Ex H H' → Rep H' d u cs → KdOk k H as cs → Q u H') : rSlAll K v lo hi H Q := by
  cases r with
  | @lst a vs xs as' h1 s1 =>
    simp only [dSl, Option.some.injEq, Prod.mk.injEq] at hf; obtain ⟨rfl, rfl⟩ := hf
    obtain ⟨bs, cs, es, r2, e2⟩ := s1.cut lo hi
    refine .inl ⟨a, vs, rfl, SqL.of h1, fun p hp => hq _ _ (p :: bs) (Ex.new hp) (.newL hp r2) ?_⟩
    unfold cutK
    split
    · rename_i hn
      rw [r2.noL (noLs_cut lo hi hn)]
      exact .mk1 ⟨by simp, fun c hc => by simp at hc; rw [hc]; exact hp⟩
    · refine .mk2 (fun c hc => ?_) fun hnd => List.nodup_cons.mpr ⟨fun m => s1.ne p (mem_sub e2 m) hp, nodup_sub e2 (List.nodup_cons.mp hnd).2⟩
      rcases List.mem_cons.mp hc with e | hc
      · rw [e]; exact .inl hp
      · exact .inr (List.mem_cons_of_mem _ (mem_sub e2 hc))
  | @tup a o vs xs _ h1 d1 s1 =>
    simp only [dSl, Option.some.injEq, Prod.mk.injEq] at hf; obtain ⟨rfl, rfl⟩ := hf
    obtain ⟨bs, cs, es, r2, e2⟩ := s1.cut lo hi
    have kk : KdOk (cutK xs lo hi) H as bs := by
      unfold cutK
      split
      · rename_i hn
        rw [r2.noL (noLs_cut lo hi hn)]
        exact KdOk.nil
      · exact .mk2 (fun c hc => .inr (mem_sub e2 hc)) fun hnd => nodup_sub e2 hnd
    refine .inr (.inl ⟨a, vs, rfl, SqT.frz h1, fun hw => ?_, fun _ p o hp hd => hq _ _ bs (Ex.new hp) (.newT hp hd r2) kk⟩)
    have e1 : cutV vs lo hi = vs := by
      unfold cutV
      rw [hw.1, hw.2]
      simp
    rw [e1] at r2
    exact hq _ H bs (Ex.refl H) (.tup h1 d1 r2) kk
  | str s =>
    simp only [dSl] at hf
    split at hf
    · rename_i hz
      cases hf
      exact .inr (.inr ⟨s, rfl, szOk_le hz, hq _ H [] (Ex.refl H) (.str _) KdOk.nil⟩)
    · cases hf
  | _ => simp [dSl] at hf
/-- an optional part of a slice -/
def SndO (X : Cx) (E : XK) (e : Option Expr) (q : Option P) : Prop := ∃ t, PO X e t ∧ ∀ (S : Addr → Prop) env σ H (R : Option Int → Hp → Prop), ObsEnv S H env σ → (match q with
    | none => R none H
    | some p => match p env with
      | .ok _ (.int i) => ∀ H', Ex H H' → R (some i) H'
      | .ok _ _ => False
      | .ex x => ∀ c dx H', Ex H H' → XR X.mg x c dx H' → E c dx H'
      | .no => False) → t σ H R
theorem sndo_none : SndO X E none none := ⟨_, po_none, fun S _ _ H R _ h => h⟩
theorem sndo_some {e : Expr} {p : P} (h : SndP X E e p) : SndO X E (some e) (some p) := by
  obtain ⟨t, h1, h2⟩ := h
  refine ⟨_, po_some h1, fun S env σ H R o w => h2 S env σ H _ o ?_⟩
  simp only at w
  cases hp : p env with
  | no => rw [hp] at w; exact w
  | ex x => rw [hp] at w; exact w
  | ok f d =>
    rw [hp] at w
    intro v H' as e r _ _
    cases r with
    | int i => exact ⟨i, rfl, w H' e⟩
    | _ => exact (show False from w).elim
theorem snd_slice {e : Expr} {lo hi : Option Expr} {p : P} {pl ph : Option P} {p2 pos : Pos} (he : SndP X E e p) (hl : SndO X E lo pl) (hh : SndO X E hi ph) : SndP X E (.Subscript e (.Slice lo hi none p2) pos) (sliceP p pl ph) := by
  obtain ⟨t, h1, h2⟩ := he
  obtain ⟨tl, l1, l2⟩ := hl
  obtain ⟨th, u1, u2⟩ := hh
  refine ⟨_, pe_slice (r := rSlAll X.K) (sl_list.or (sl_tupF.or sl_str)) h1 l1 u1, fun S env σ H Q o w => h2 S env σ H _ o ?_⟩
  unfold sliceP at w
  cases hp : p env with
  | no => rw [hp] at w; exact w
  | ex x => rw [hp] at w; exact w
  | ok f x =>
    rw [hp] at w
    intro v H1 as e1 r1 m1 n1
    -- the upper part, then the cut
    have fin : ∀ (l u : Option Int) (H3 : Hp), Ex H1 H3 → PWant S X.mg H Q E (slEnd f x l u) → rSlAll X.K v l u H3 Q := by
      intro l u H3 e3 w
      unfold slEnd at w
      cases hs : dSl x l u with
      | none => rw [hs] at w; exact w.elim
      | some kd =>
        obtain ⟨k, d⟩ := kd
        rw [hs] at w
        refine v_sl X.K (r1.mono e3) hs fun z H4 cs e4 r4 kk => w z H4 cs ((e1.trans e3).trans e4) r4 (kd_mem (e1.trans e3) m1 kk) (kd_new (e1.trans e3) (fun g => gfl_new g r1 n1) kk)
    have upper : ∀ (l : Option Int) (H2 : Hp), Ex H1 H2 → PWant S X.mg H Q E (slHi f x l ph env) → th σ H2 fun u H3 => rSlAll X.K v l u H3 Q := by
      intro l H2 e2 w
      refine u2 S env σ H2 _ (o.mono (e1.trans e2)) ?_
      unfold slHi at w
      cases ph with
      | none => exact fin l none H2 e2 w
      | some q =>
        simp only at w ⊢
        cases hq : q env with
        | no => rw [hq] at w; exact w
        | ex x => rw [hq] at w; exact fun c dx H' e' r => w c dx H' ((e1.trans e2).trans e') r
        | ok f2 z =>
          rw [hq] at w
          cases z with
          | int j => exact fun H3 e3 => fin l (some j) H3 (e2.trans e3) w
          | _ => exact (show False from w).elim
    refine l2 S env σ H1 _ (o.mono e1) ?_
    cases pl with
    | none => exact upper none H1 (Ex.refl H1) w
    | some q =>
      simp only at w ⊢
      cases hq : q env with
      | no => rw [hq] at w; exact w
      | ex x => rw [hq] at w; exact fun c dx H' e' r => w c dx H' (e1.trans e') r
      | ok f2 z =>
        rw [hq] at w
        cases z with
        | int i => exact fun H2 e2 => upper (some i) H2 e2 w
        | _ => exact (show False from w).elim

/-! ### operations of any number of places -/
def VN (r : List V → Hp → VK → Prop) (f : List D → Option (Kd × D)) : Prop := ∀ H ds vs as k d (Q : VK), Reps H ds vs as → f ds = some (k, d) → (∀ u H' cs, Ex H H' → Rep H' d u cs → KdOk k H as cs → Q u H') → r vs H Q
def opN (f : List D → Option (Kd × D)) (ps : List P) : P := fun env => (args ps env).bind fun g ds => match f ds with
  | some (k, d) => .ok (k.fl g) d
  | none => .no
theorem snd_opN {e : Expr} {es : List Expr} {ps : List P} {r : List V → Hp → VK → Prop} {f : List D → Option (Kd × D)} (mk : ∀ {t}, PA X es t → PE X e (tCB r t)) (hv : VN r f) (h : SndA X E es ps) : SndP X E e (opN f ps) := by
  obtain ⟨t, h1, h2⟩ := h
  refine ⟨_, mk h1, fun S env σ H Q o w => h2 S env σ H _ o ?_⟩
  unfold opN at w
  cases hp : args ps env with
  | no => rw [hp] at w; exact w
  | ex x => rw [hp] at w; exact w
  | ok g ds =>
    rw [hp] at w
    intro vs H1 as e1 r1 m1 n1
    simp only [AR.bind] at w
    cases hf : f ds with
    | none => rw [hf] at w; exact w.elim
    | some kd =>
      obtain ⟨k, d⟩ := kd
      rw [hf] at w
      exact hv H1 ds vs as k d Q r1 hf fun z H2 cs e2 r2 kk => w z H2 cs (e1.trans e2) r2 (kd_mem e1 m1 kk) (kd_new e1 n1 kk)
def dTup (ds : List D) : Option (Kd × D) := if szOk ds.length then some (.lin, .tup ds) else none
def dLst (ds : List D) : Option (Kd × D) := if szOk ds.length then some (.lin, .lst ds) else none
theorem v_tup : VN (fun xs H1 Q => xs.length ≤ sizeLine ∧ NewT xs H1 Q) dTup := by
  intro H ds vs as k d Q r hf hq
  unfold dTup at hf
  split at hf
  · rename_i hz
    cases hf
    refine ⟨by rw [← r.length]; exact szOk_le hz, fun p o hp hd => hq _ _ as (Ex.new hp) (.newT hp hd r) (.mk2 (fun a h => .inr h) fun hn => hn)⟩
  · cases hf
theorem v_lst : VN (fun xs H1 Q => xs.length ≤ sizeLine ∧ ∀ p, H1 p = none → Q (.ref p) (upd H1 p (.lst xs))) dLst := by
  intro H ds vs as k d Q r hf hq
  unfold dLst at hf
  split at hf
  · rename_i hz
    cases hf
    refine ⟨by rw [← r.length]; exact szOk_le hz, fun p hp => hq _ _ (p :: as) (Ex.new hp) (.newL hp r) (.mk2 (fun a h => ?_) fun hn => List.nodup_cons.mpr ⟨fun m => r.ne p m hp, hn⟩)⟩
    rcases List.mem_cons.mp h with e | h
    · rw [e]; exact .inl hp
    · exact .inr h
  · cases hf
theorem snd_tup {es : List Expr} {ps : List P} {k : Nat} {pos : Pos} (h : SndA X E es ps) : SndP X E (.Tuple es k pos) (opN dTup ps) := snd_opN (fun a => pe_tupF a) v_tup h
theorem snd_lst {es : List Expr} {ps : List P} {pos : Pos} (h : SndA X E es ps) : SndP X E (.List es pos) (opN dLst ps) := snd_opN (fun a => pe_lst a) v_lst h
/-- a built-in function called -/
theorem snd_b {x : Str} {id : String} {e : Expr} {es : List Expr} {ps : List P} {p pos : Pos} {r : List V → Hp → VK → Prop} {f : List D → Option (Kd × D)} (hc : CallR X (.builtin id) r) (hv : VN r f) (hg : Gl X x) (hm : X.mg x = none) (hb : bootBuiltins x = some (.builtin id)) (h : SndA X E (e :: es) ps)
    (hn : x ≠ "__name__" := by decide) (hdb : (x == ("__debug__" : Str)) = false := by decide) (he : starEach (e :: es) X.env = (false, eval e X.env) :: starEach es X.env := by rfl) (hpl : (backTo pos (starEach es X.env)).any (·.1) = false := by rfl) :
    SndP X E (.Call (.Name x p) (e :: es) [] pos) (opN f ps) := snd_opN (fun a => pe_callB hc hg hm hb a hn hdb he hpl) hv h
theorem snd_ty {x : Str} {T : String} {e : Expr} {es : List Expr} {ps : List P} {p pos : Pos} {r : List V → Hp → VK → Prop} {f : List D → Option (Kd × D)} (hc : CallR X (.type T) r) (hv : VN r f) (hg : Gl X x) (hm : X.mg x = none) (hb : bootBuiltins x = some (.type T)) (h : SndA X E (e :: es) ps)
    (hn : x ≠ "__name__" := by decide) (hdb : (x == ("__debug__" : Str)) = false := by decide) (he : starEach (e :: es) X.env = (false, eval e X.env) :: starEach es X.env := by rfl) (hpl : (backTo pos (starEach es X.env)).any (·.1) = false := by rfl) :
    SndP X E (.Call (.Name x p) (e :: es) [] pos) (opN f ps) := snd_opN (fun a => pe_callTy hc hg hm hb a hn hdb he hpl) hv h

/-! ### the built-ins by values -/
def dLen : List D → Option (Kd × D)
  | [.lst xs] => some (.new, .int xs.length)
  | [.tup xs] => some (.new, .int xs.length)
  | [.frz xs] => some (.new, .int xs.length)
  | [.str s] => if szOk s.length then some (.new, .int s.length) else none
  | _ => none
theorem Reps.one {H : Hp} {d : D} {vs : List V} {as : List Addr} (r : Reps H [d] vs as) : ∃ v, vs = [v] ∧ Rep H d v as := by
  cases r with
  | cons r rs => cases rs; exact ⟨_, rfl, by simpa using r⟩
theorem Reps.two {H : Hp} {d e : D} {vs : List V} {as : List Addr} (r : Reps H [d, e] vs as) : ∃ v w bs cs, vs = [v, w] ∧ Rep H d v bs ∧ Rep H e w cs ∧ as = bs ++ cs := by
  cases r with
  | cons r rs =>
    obtain ⟨w, e, r2⟩ := rs.one
    subst e
    exact ⟨_, w, _, _, rfl, r, r2, rfl⟩
theorem v_len (K : PySem.W.Frag) : VN (fun xs H Q => ∃ x n, xs = [x] ∧ LenV K x H n ∧ Q (.int n) H) dLen := by
  intro H ds vs as k d Q r hf hq
  match ds, hf with
  | [.lst xs], hf =>
    cases hf
    obtain ⟨v, rfl, r1⟩ := r.one
    cases r1 with
    | lst h s => exact ⟨_, _, rfl, .inl ⟨_, SqL.of h, rfl⟩, by rw [← s.length]; exact hq _ H [] (Ex.refl H) (.int _) KdOk.nil⟩
  | [.tup xs], hf =>
    cases hf
    obtain ⟨v, rfl, r1⟩ := r.one
    cases r1 with
    | tup h _ s => exact ⟨_, _, rfl, .inr ⟨_, SqT.frz h, rfl⟩, by rw [← s.length]; exact hq _ H [] (Ex.refl H) (.int _) KdOk.nil⟩
  | [.frz xs], hf =>
    cases hf
    obtain ⟨v, rfl, r1⟩ := r.one
    cases r1 with
    | frz h s => exact ⟨_, _, rfl, .inl ⟨_, SqL.frz h, rfl⟩, by rw [← s.length]; exact hq _ H [] (Ex.refl H) (.int _) KdOk.nil⟩
  | [.str s], hf =>
    simp only [dLen] at hf
    split at hf
    · rename_i hz
      cases hf
      obtain ⟨v, rfl, r1⟩ := r.one
      cases r1
      exact ⟨_, _, rfl, ⟨szOk_le hz, rfl⟩, hq _ H [] (Ex.refl H) (.int _) KdOk.nil⟩
    · cases hf
def dAll : List D → Option (Kd × D)
  | [.lst xs] => match toBls xs with
    | some bs => some (.new, .bl (bs.all id))
    | none => none
  | _ => none
def dAny : List D → Option (Kd × D)
  | [.lst xs] => match toBls xs with
    | some bs => some (.new, .bl (bs.any id))
    | none => none
  | _ => none
theorem v_all (K : PySem.W.Frag) : VN (rAll K) dAll := by
  intro H ds vs as k d Q r hf hq
  match ds, hf with
  | [.lst xs], hf =>
    simp only [dAll] at hf
    split at hf
    · rename_i bs hb
      cases hf
      obtain ⟨v, rfl, r1⟩ := r.one
      cases r1 with
      | lst h s =>
        have e := Reps.bls hb s
        exact ⟨_, bs, rfl, by rw [← e]; exact SqL.of h, hq _ H [] (Ex.refl H) (.bl _) KdOk.nil⟩
    · cases hf
theorem v_any (K : PySem.W.Frag) : VN (rAny K) dAny := by
  intro H ds vs as k d Q r hf hq
  match ds, hf with
  | [.lst xs], hf =>
    simp only [dAny] at hf
    split at hf
    · rename_i bs hb
      cases hf
      obtain ⟨v, rfl, r1⟩ := r.one
      cases r1 with
      | lst h s =>
        have e := Reps.bls hb s
        exact ⟨_, bs, rfl, by rw [← e]; exact SqL.of h, hq _ H [] (Ex.refl H) (.bl _) KdOk.nil⟩
    · cases hf
def dAbs : List D → Option (Kd × D)
  | [.int i] => some (.new, .int (if i < 0 then -i else i))
  | _ => none
theorem v_abs : VN (fun xs H Q => ∃ i, xs = [.int i] ∧ Q (.int (if i < 0 then -i else i)) H) dAbs := by
  intro H ds vs as k d Q r hf hq
  match ds, hf with
  | [.int i], hf =>
    cases hf
    obtain ⟨v, rfl, r1⟩ := r.one
    cases r1
    exact ⟨i, rfl, hq _ H [] (Ex.refl H) (.int _) KdOk.nil⟩
def dMax2 : List D → Option (Kd × D)
  | [.int i, .int j] => some (.new, .int (if j > i then j else i))
  | _ => none
def dMin2 : List D → Option (Kd × D)
  | [.int i, .int j] => some (.new, .int (if j < i then j else i))
  | _ => none
theorem v_max2 : VN (fun xs H Q => ∃ i j, xs = [.int i, .int j] ∧ Q (.int (if j > i then j else i)) H) dMax2 := by
  intro H ds vs as k d Q r hf hq
  match ds, hf with
  | [.int i, .int j], hf =>
    cases hf
    obtain ⟨v, w, _, _, rfl, r1, r2, _⟩ := r.two
    cases r1; cases r2
    exact ⟨i, j, rfl, hq _ H [] (Ex.refl H) (.int _) KdOk.nil⟩
theorem v_min2 : VN (fun xs H Q => ∃ i j, xs = [.int i, .int j] ∧ Q (.int (if j < i then j else i)) H) dMin2 := by
  intro H ds vs as k d Q r hf hq
  match ds, hf with
  | [.int i, .int j], hf =>
    cases hf
    obtain ⟨v, w, _, _, rfl, r1, r2, _⟩ := r.two
    cases r1; cases r2
    exact ⟨i, j, rfl, hq _ H [] (Ex.refl H) (.int _) KdOk.nil⟩
def dInt : List D → Option (Kd × D)
  | [.int i] => some (.new, .int i)
  | [.bl b] => some (.new, .int (if b then 1 else 0))
  | _ => none
theorem v_int1 : VN (fun xs H Q => (∃ i, xs = [.int i] ∧ Q (.int i) H) ∨ ∃ k, xs = [.bl k] ∧ Q (.int (if k then 1 else 0)) H) dInt := by
  intro H ds vs as k d Q r hf hq
  match ds, hf with
  | [.int i], hf =>
    cases hf
    obtain ⟨v, rfl, r1⟩ := r.one
    cases r1
    exact .inl ⟨i, rfl, hq _ H [] (Ex.refl H) (.int _) KdOk.nil⟩
  | [.bl b], hf =>
    cases hf
    obtain ⟨v, rfl, r1⟩ := r.one
    cases r1
    exact .inr ⟨b, rfl, hq _ H [] (Ex.refl H) (.int _) KdOk.nil⟩
/-- list(x) -/
def dListOf : List D → Option (Kd × D)
  | [.lst xs] => some (if noLs xs then .new else .lin, .lst xs)
  | [.frz xs] => some (if noLs xs then .new else .lin, .lst xs)
  | [.tup xs] => some (if noLs xs then .new else .lin, .lst xs)
  | _ => none
theorem kd_new1 {H : Hp} {p : Addr} {xs : List D} {vs : List V} {as : List Addr} (hp : H p = none) (r : Reps H xs vs as) (more : List Addr) : KdOk (if noLs xs = true then Kd.new else Kd.lin) H (more ++ as) (p :: as) := by
  split
  · rename_i h
    rw [r.noL h]
    exact .mk1 ⟨by simp, fun c hc => by simp at hc; rw [hc]; exact hp⟩
  · refine .mk2 (fun a h => ?_) fun hn => List.nodup_cons.mpr ⟨fun m => r.ne p m hp, (List.nodup_append.mp hn).2.1⟩
    rcases List.mem_cons.mp h with e | h
    · rw [e]; exact .inl hp
    · exact .inr (List.mem_append_right _ h)
theorem kd_same {H : Hp} {xs : List D} {vs : List V} {as : List Addr} (r : Reps H xs vs as) (more : List Addr) : KdOk (if noLs xs = true then Kd.new else Kd.lin) H (more ++ as) as := by
  split
  · rename_i h
    rw [r.noL h]
    exact KdOk.nil
  · exact .mk2 (fun a h => .inr (List.mem_append_right _ h)) fun hn => (List.nodup_append.mp hn).2.1
theorem v_listOf (K : PySem.W.Frag) : VN (fun xs H Q => ∃ p ys, xs = [.ref p] ∧ (SqL K H p ys ∨ SqT K H p ys) ∧ ∀ l, H l = none → Q (.ref l) (upd H l (.lst ys))) dListOf := by
  intro H ds vs as k d Q r hf hq
  match ds, hf with
  | [.lst xs], hf =>
    cases hf
    obtain ⟨v, rfl, r1⟩ := r.one
    cases r1 with
    | @lst a vs _ as' h s => exact ⟨_, _, rfl, .inl (SqL.of h), fun l hl => hq _ _ (l :: as') (Ex.new hl) (.newL hl s) (kd_new1 hl s [a])⟩
  | [.frz xs], hf =>
    cases hf
    obtain ⟨v, rfl, r1⟩ := r.one
    cases r1 with
    | frz h s => exact ⟨_, _, rfl, .inl (SqL.frz h), fun l hl => hq _ _ [l] (Ex.new hl) (.newL hl s) (kd_new1 hl s [])⟩
  | [.tup xs], hf =>
    cases hf
    obtain ⟨v, rfl, r1⟩ := r.one
    cases r1 with
    | tup h _ s => exact ⟨_, _, rfl, .inr (SqT.frz h), fun l hl => hq _ _ (l :: as) (Ex.new hl) (.newL hl s) (kd_new1 hl s [])⟩
/-- tuple(x) -/
def dTupOf : List D → Option (Kd × D)
  | [.lst xs] => some (if noLs xs then .new else .lin, .tup xs)
  | [.tup xs] => some (if noLs xs then .new else .lin, .tup xs)
  | _ => none
theorem v_tupOf (K : PySem.W.Frag) : VN (rTupOf K) dTupOf := by
  intro H ds vs as k d Q r hf hq
  match ds, hf with
  | [.lst xs], hf =>
    cases hf
    obtain ⟨v, rfl, r1⟩ := r.one
    cases r1 with
    | @lst a vs _ as' h s => exact ⟨_, _, rfl, .inl ⟨SqL.of h, fun p o hp hd => hq _ _ as' (Ex.new hp) (.newT hp hd s) (kd_same s [a])⟩⟩
  | [.tup xs], hf =>
    cases hf
    obtain ⟨v, rfl, r1⟩ := r.one
    cases r1 with
    | tup h hd s => exact ⟨_, _, rfl, .inr ⟨SqT.frz h, hq _ H as (Ex.refl H) (.tup h hd s) (kd_same s [])⟩⟩
/-- isinstance(x, T), T a built-in class -/
def tyN : D → Option String
  | .non => some "NoneType"
  | .bl _ => some "bool"
  | .int _ => some "int"
  | .str _ => some "str"
  | .tup _ => some "tuple"
  | .lst _ => some "list"
  | .frz _ => some "list"
  | _ => none
def isT (T : String) (d : D) : Option (Kd × D) := match tyN d with
  | some t => match kitB t T with
    | some b => some (.new, .bl b)
    | none => none
  | none => none
theorem Rep.tyx {K : PySem.W.Frag} {H : Hp} {d : D} {v : V} {as : List Addr} {t : String} (r : Rep H d v as) (h : tyN d = some t) : TyX K H v (.type t) := by
  cases r <;> simp only [tyN, Option.some.injEq] at h <;> first | subst h | cases h
  · exact .base .non
  · exact .base (.bl _)
  · exact .base (.int _)
  · exact .base (.str _)
  · rename_i h _ _; exact .fTuple h
  · rename_i h _; exact .base (.lst h)
  · rename_i h _; exact .base (.frz h)
def op1 (f : D → Option (Kd × D)) (a : P) : P := fun env => (a env).bind fun fa x => match f x with
  | some (k, d) => .ok (k.fl (gfl fa x)) d
  | none => .no
theorem snd_isT {e : Expr} {p : P} {T : String} {x : Str} {p1 p2 pos : Pos} (h : SndP X E e p) (hg : Gl X "isinstance") (hm : X.mg "isinstance" = none) (hg2 : Gl X x) (hm2 : X.mg x = none) (hb : bootBuiltins x = some (.type T))
    (hn : x ≠ "__name__" := by decide) (hdb : (x == ("__debug__" : Str)) = false := by decide) (he : starEach [e, .Name x p2] X.env = (false, eval e X.env) :: starEach [.Name x p2] X.env := by rfl) (he2 : starEach [.Name x p2] X.env = (false, eval (.Name x p2) X.env) :: starEach [] X.env := by rfl)
    (hpl : (backTo pos (starEach [.Name x p2] X.env)).any (·.1) = false := by rfl) :
    SndP X E (.Call (.Name "isinstance" p1) [e, .Name x p2] [] pos) (op1 (isT T) p) := by
  obtain ⟨t, h1, h2⟩ := h
  refine ⟨_, pe_callB call_isi hg hm (by decide +kernel) (pa_cons h1 (pa_cons (pe_bltn (v := .ty T) hg2 hm2 hb rfl hn hdb) pa_nil he2) he) (by decide) (by decide) he hpl, fun S env σ H Q o w => h2 S env σ H _ o ?_⟩
  unfold op1 at w
  cases hp : p env with
  | no => rw [hp] at w; exact w
  | ex x => rw [hp] at w; exact w
  | ok f d =>
    rw [hp] at w
    intro v H1 as e1 r1 _ _
    simp only [PR.bind, isT] at w
    cases ht : tyN d with
    | none => rw [ht] at w; exact w.elim
    | some t =>
      rw [ht] at w
      simp only at w
      cases hk : kitB t T with
      | none => rw [hk] at w; exact w.elim
      | some b =>
        rw [hk] at w
        exact ⟨v, .ty T, .type t, .type T, b, rfl, .ty T, r1.tyx ht, kit_ty hk, w _ H1 [] e1 (.bl b) noMem fun _ => .nil H⟩
end
end CB

namespace CB
open PySem L2 PySem.Spec PyProof.Rows
variable [CT]

/-! ### what is walked -/
inductive IR where
  | ok (f : Bool) (ds : List D) | ex (x : Xn) | no
abbrev I := Env → IR
def Holds (fx : Addr → HO → Prop) (H : Hp) : Prop := ∀ a o, fx a o → H a = some o
structure Serves (J : It) (fx : Addr → HO → Prop) (ds : List D) (cD : Nat → List D) (cV : Nat → List V) : Prop where
  go : ∀ i H, i < ds.length → Holds fx H → J.go i H
  yld : ∀ i H x H', Holds fx H → J.yld i H x H' → ∀ d, ds[i]? = some d → Ex H H' ∧ ∀ as, Reps H (cD i) (cV i) as → Rep H' d x as
  stop : ∀ i H, ds.length ≤ i → Holds fx H → J.stop i H
  nol : ∀ i d, ds[i]? = some d → noL d = true → noLs (cD i) = true
def IWant (S : Addr → Prop) (mg : Str → Option Value) (H : Hp) (R : It → Hp → Prop) (E : XK) : IR → Prop
  | .ok f ds => ∀ J H' fx cD cV, Ex H H' → Serves J fx ds cD cV → Holds fx H' → (∀ i, i < ds.length → ∃ as, Reps H' (cD i) (cV i) as ∧ ∀ a ∈ as, S a ∨ H a = none) →
      (f = true → ∀ a o, fx a o → H a = none ∨ Imm o = true) → (∀ a o, fx a o → S a ∨ H a = none ∨ Imm o = true) → R J H'
  | .ex x => ∀ c dx H', Ex H H' → XR mg x c dx H' → E c dx H'
  | .no => False
def SndI (X : Cx) (E : XK) (tg iter : Expr) (ι : I) : Prop := ∃ wi, PI X tg iter wi ∧ ∀ (S : Addr → Prop) env σ H R, ObsEnv S H env σ → IWant S X.mg H R E (ι env) → wi σ H R

section
variable {X : Cx} {E : XK} {tg : Expr}
/-! a list or a tuple -/
def iSeqF (K : PySem.W.Frag) (tl : TE) : TI := fun σ H R => tl σ H fun x H1 => ∃ a, x = .ref a ∧ ((∃ xs, SqL K H1 a xs ∧ R (Itl K a) H1) ∨ (∃ xs, SqT K H1 a xs ∧ R (Itt K a) H1))
theorem pi_seqF {l : Expr} {tl : TE} (hl : PE X l tl) : PI X tg l (iSeqF X.K tl) := by
  refine ⟨fun pins s σ H R I h => ?_⟩
  refine thn (hl.run pins s σ H _ I h) fun v s1 ⟨x, H1, I1, r1, q1⟩ => ?_
  obtain ⟨a, e, q⟩ := q1
  subst e
  cases r1
  have fp : ∀ b ∈ [s1.heap.objs.size], FpOk X pins H1 b := fun b hb => by
    have e : b = s1.heap.objs.size := by simpa using hb
    subst e
    exact I1.fpOk (Nat.le_refl _) (I1.hok.fresh (Nat.le_refl _))
  rcases q with ⟨xs, hq, q⟩ | ⟨xs, hq, q⟩
  · obtain ⟨its, rv, p, hz⟩ := I1.list hq
    refine wpAny_pyIter_list p.isList ?_
    exact ⟨s1.heap.objs.size, [s1.heap.objs.size], _, _, H1, rfl, I1.kept (t' := s1.toks) fun b o e => Heap.get?_push_of_some _ e, turn_list a _, ⟨_, Heap.get?_push_size _ rfl, rfl, rfl⟩, fp, q⟩
  · obtain ⟨its, rv, p, hz⟩ := I1.tuple hq
    refine wpAny_pyIter_tuple (show s1.heap.IsTuple a its.toArray from p) ?_
    exact ⟨s1.heap.objs.size, [s1.heap.objs.size], _, _, H1, rfl, I1.kept (t' := s1.toks) fun b o e => Heap.get?_push_of_some _ e, turn_tuple a _, ⟨_, Heap.get?_push_size _ rfl, rfl, rfl⟩, fp, q⟩
theorem serves_list {K : PySem.W.Frag} {H : Hp} {a : Addr} {xs : List D} {vs : List V} {as : List Addr} (r : Reps H xs vs as) : Serves (Itl K a) (fun b o => b = a ∧ o = .lst vs) xs (fun i => (xs[i]?).toList) (fun i => (vs[i]?).toList) where
  go := fun i H hi hf => by
    have hl := r.length
    exact ⟨vs, vs[i]'(by omega), SqL.of (hf a _ ⟨rfl, rfl⟩), by simp⟩
  yld := fun i H x H' hf hy d hd => by
    obtain ⟨e, hy⟩ := hy
    subst e
    have := hy vs (SqL.of (hf a _ ⟨rfl, rfl⟩))
    refine ⟨Ex.refl _, fun as ra => ?_⟩
    simp only [hd, this, Option.toList] at ra
    obtain ⟨v, ev, rv⟩ := ra.one
    cases ev
    exact rv
  stop := fun i H hi hf => ⟨vs, SqL.of (hf a _ ⟨rfl, rfl⟩), by have hl := r.length; omega⟩
  nol := fun i d h hn => by simp only [h, Option.toList, noLs, hn, Bool.and_true]
theorem serves_frz {K : PySem.W.Frag} {H : Hp} {a : Addr} {o : Obj} {xs : List D} {vs : List V} {as : List Addr} (r : Reps H xs vs as) : Serves (Itl K a) (fun b u => b = a ∧ u = .frz o (.lst vs)) xs (fun i => (xs[i]?).toList) (fun i => (vs[i]?).toList) where
  go := fun i H hi hf => by
    have hl := r.length
    exact ⟨vs, vs[i]'(by omega), SqL.frz (hf a _ ⟨rfl, rfl⟩), by simp⟩
  yld := fun i H x H' hf hy d hd => by
    obtain ⟨e, hy⟩ := hy
    subst e
    have := hy vs (SqL.frz (hf a _ ⟨rfl, rfl⟩))
    refine ⟨Ex.refl _, fun as ra => ?_⟩
    simp only [hd, this, Option.toList] at ra
    obtain ⟨v, ev, rv⟩ := ra.one
    cases ev
    exact rv
  stop := fun i H hi hf => ⟨vs, SqL.frz (hf a _ ⟨rfl, rfl⟩), by have hl := r.length; omega⟩
  nol := fun i d h hn => by simp only [h, Option.toList, noLs, hn, Bool.and_true]
theorem serves_tup {K : PySem.W.Frag} {H : Hp} {a : Addr} {o : Obj} {xs : List D} {vs : List V} {as : List Addr} (r : Reps H xs vs as) : Serves (Itt K a) (fun b u => b = a ∧ u = .frz o (.tup vs)) xs (fun i => (xs[i]?).toList) (fun i => (vs[i]?).toList) where
  go := fun i H hi hf => by
    have hl := r.length
    exact ⟨vs, vs[i]'(by omega), SqT.frz (hf a _ ⟨rfl, rfl⟩), by simp⟩
  yld := fun i H x H' hf hy d hd => by
    obtain ⟨e, hy⟩ := hy
    subst e
    have := hy vs (SqT.frz (hf a _ ⟨rfl, rfl⟩))
    refine ⟨Ex.refl _, fun as ra => ?_⟩
    simp only [hd, this, Option.toList] at ra
    obtain ⟨v, ev, rv⟩ := ra.one
    cases ev
    exact rv
  stop := fun i H hi hf => ⟨vs, SqT.frz (hf a _ ⟨rfl, rfl⟩), by have hl := r.length; omega⟩
  nol := fun i d h hn => by simp only [h, Option.toList, noLs, hn, Bool.and_true]
theorem reps_each {S : Addr → Prop} {H H' : Hp} {xs : List D} {vs : List V} {as : List Addr} (r : Reps H' xs vs as) (m : ∀ a ∈ as, S a ∨ H a = none) : ∀ i, i < xs.length → ∃ bs, Reps H' (xs[i]?).toList (vs[i]?).toList bs ∧ ∀ a ∈ bs, S a ∨ H a = none := fun i hi => by
  have e : xs[i]? = some xs[i] := by simp
  obtain ⟨v, bs, cs, es, h1, h2, h3⟩ := r.get e
  refine ⟨bs, ?_, fun a h => m a (mem_sub h3 h)⟩
  rw [e, h1]
  have : Reps H' [xs[i]] [v] (bs ++ []) := .cons h2 .nil
  simpa using this
def iseq (p : P) : I := fun env => match p env with
  | .ok f (.lst xs) => .ok f xs
  | .ok _ (.frz xs) => .ok true xs
  | .ok _ (.tup xs) => .ok true xs
  | .ok _ _ => .no
  | .ex x => .ex x
  | .no => .no
/-- what a value serves -/
theorem iseq_ok {S : Addr → Prop} {mg : Str → Option Value} {H H1 : Hp} {R : It → Hp → Prop} {K : PySem.W.Frag} {f : Bool} {d : D} {v : V} {as : List Addr} (e1 : Ex H H1) (r1 : Rep H1 d v as) (m1 : ∀ a ∈ as, S a ∨ H a = none) (n1 : f = true → New H as)
    (w : IWant S mg H R E (match (PR.ok f d) with
      | .ok f (.lst xs) => .ok f xs
      | .ok _ (.frz xs) => .ok true xs
      | .ok _ (.tup xs) => .ok true xs
      | .ok _ _ => .no
      | .ex x => .ex x
      | .no => .no)) : ∃ a, v = .ref a ∧ ((∃ xs, SqL K H1 a xs ∧ R (Itl K a) H1) ∨ (∃ xs, SqT K H1 a xs ∧ R (Itt K a) H1)) := by
  cases r1 with
  | @lst a vs xs as' h s =>
    refine ⟨a, rfl, .inl ⟨vs, SqL.of h, w _ H1 _ _ _ e1 (serves_list s) (fun b o ⟨z1, z2⟩ => by subst z1 z2; exact h) (reps_each s fun b hb => m1 b (List.mem_cons_of_mem _ hb)) (fun z b o ⟨z1, _⟩ => ?_) fun b o ⟨z1, _⟩ => ?_⟩⟩
    · subst z1; exact .inl ((n1 z).2 _ List.mem_cons_self)
    · subst z1; exact (m1 _ List.mem_cons_self).imp id .inl
  | @frz a ob vs xs h s =>
    refine ⟨a, rfl, .inl ⟨vs, SqL.frz h, w _ H1 (fun b u => b = a ∧ u = .frz ob (.lst vs)) _ _ e1 (serves_frz s) (fun b o ⟨z1, z2⟩ => by subst z1 z2; exact h) (reps_each s m1) (fun z b o ⟨_, z2⟩ => ?_) fun b o ⟨_, z2⟩ => ?_⟩⟩
    · subst z2; exact .inr rfl
    · subst z2; exact .inr (.inr rfl)
  | @tup a ob vs xs _ h hd' s =>
    refine ⟨a, rfl, .inr ⟨vs, SqT.frz h, w _ H1 (fun b u => b = a ∧ u = .frz ob (.tup vs)) _ _ e1 (serves_tup s) (fun b o ⟨z1, z2⟩ => by subst z1 z2; exact h) (reps_each s m1) (fun z b o ⟨_, z2⟩ => ?_) fun b o ⟨_, z2⟩ => ?_⟩⟩
    · subst z2; exact .inr rfl
    · subst z2; exact .inr (.inr rfl)
  | _ => exact (show False from w).elim
theorem sndi_seq {e : Expr} {p : P} (h : SndP X E e p) : SndI X E tg e (iseq p) := by
  obtain ⟨t, h1, h2⟩ := h
  refine ⟨_, pi_seqF h1, fun S env σ H R o w => h2 S env σ H _ o ?_⟩
  unfold iseq at w
  cases hp : p env with
  | no => rw [hp] at w; exact w
  | ex x => rw [hp] at w; exact w
  | ok f d =>
    rw [hp] at w
    intro v H1 as e1 r1 m1 n1
    exact iseq_ok e1 r1 m1 n1 w

/-! ranges -/
def rgD (lo : Int) (n : Nat) : List D := (List.range n).map fun (k : Nat) => D.int (lo + k)
theorem rgD_length (lo : Int) (n : Nat) : (rgD lo n).length = n := by simp [rgD]
theorem rgD_get {lo : Int} {n i : Nat} {d : D} (h : (rgD lo n)[i]? = some d) : d = .int (lo + i) := by
  simp only [rgD, List.getElem?_map] at h
  cases e : (List.range n)[i]? with
  | none => rw [e] at h; cases h
  | some k =>
    rw [e] at h
    have := List.getElem?_range (n := n) (i := i)
    cases h
    have hk : k = i := by
      have h1 := (List.getElem?_eq_some_iff.mp e)
      obtain ⟨h1, h2⟩ := h1
      rw [List.getElem_range] at h2
      exact h2.symm
    rw [hk]
theorem serves_range (lo : Int) (n : Nat) : Serves (Itr lo n) (fun _ _ => False) (rgD lo n) (fun _ => []) (fun _ => []) where
  go := fun i H hi _ => by rw [rgD_length] at hi; exact hi
  yld := fun i H x H' _ hy d hd => by
    obtain ⟨e1, e2⟩ := hy
    subst e1 e2
    refine ⟨Ex.refl _, fun as r => ?_⟩
    cases r
    rw [rgD_get hd]
    exact .int _
  stop := fun i H hi _ => by rw [rgD_length] at hi; exact hi
  nol := fun _ _ _ _ => rfl
def rgSz (i : Int) : Bool := decide (-4611686018427387904 ≤ i) && decide (i < 4611686018427387904)
def irange1 (p : P) : I := fun env => match p env with
  | .ok _ (.int j) => if rgSz j then .ok true (rgD 0 j.toNat) else .no
  | .ok _ _ => .no
  | .ex x => .ex x
  | .no => .no
theorem snd_args1 {e : Expr} {p : P} (h : SndP X E e p) (hst : starEach [e] X.env = (false, eval e X.env) :: starEach [] X.env := by rfl) : SndA X E [e] [p] := snda_cons h snda_nil hst
theorem sndi_range1 {e : Expr} {p : P} {p1 pos : Pos} (h : SndP X E e p) (hg : Gl X "range") (hm : X.mg "range" = none) (hs : starEach [e] X.env = [(false, eval e X.env)] := by rfl) : SndI X E tg (.Call (.Name "range" p1) [e] [] pos) (irange1 p) := by
  obtain ⟨t, h1, h2⟩ := h
  refine ⟨_, pi_range1 hg hm (pa_cons h1 pa_nil hs) hs, fun S env σ H R o w => h2 S env σ H _ o ?_⟩
  unfold irange1 at w
  cases hp : p env with
  | no => rw [hp] at w; exact w
  | ex x => rw [hp] at w; exact w
  | ok f d =>
    rw [hp] at w
    intro v H1 as e1 r1 _ _
    cases r1 with
    | int j =>
      simp only at w
      split at w
      · rename_i hz
        unfold rgSz at hz
        simp only [Bool.and_eq_true, decide_eq_true_eq] at hz
        exact ⟨j, rfl, by omega, by omega, w _ H1 _ _ _ e1 (serves_range 0 j.toNat) (fun a o z => z.elim) (fun i hi => ⟨[], .nil, noMem⟩) (fun _ a o z => z.elim) fun a o z => z.elim⟩
      · exact w.elim
    | _ => exact (show False from w).elim
def irange2 (p q : P) : I := fun env => match p env with
  | .ok _ (.int i) => match q env with
    | .ok _ (.int j) => if rgSz i && rgSz j then .ok true (rgD i (j - i).toNat) else .no
    | .ok _ _ => .no
    | .ex x => .ex x
    | .no => .no
  | .ok _ _ => .no
  | .ex x => .ex x
  | .no => .no
theorem sndi_range2 {e e2 : Expr} {p q : P} {p1 pos : Pos} (h : SndP X E e p) (h' : SndP X E e2 q) (hg : Gl X "range") (hm : X.mg "range" = none) (hs : starEach [e, e2] X.env = [(false, eval e X.env), (false, eval e2 X.env)] := by rfl) (hs2 : starEach [e2] X.env = [(false, eval e2 X.env)] := by rfl) : SndI X E tg (.Call (.Name "range" p1) [e, e2] [] pos) (irange2 p q) := by
  obtain ⟨t, h1, h2⟩ := h
  obtain ⟨u, g1, g2⟩ := h'
  refine ⟨_, pi_range2 hg hm (pa_cons h1 (pa_cons g1 pa_nil hs2) (by rw [hs, hs2])) hs hs2, fun S env σ H R o w => h2 S env σ H _ o ?_⟩
  unfold irange2 at w
  cases hp : p env with
  | no => rw [hp] at w; exact w
  | ex x => rw [hp] at w; exact w
  | ok f d =>
    rw [hp] at w
    intro v H1 as e1 r1 _ _
    cases r1 with
    | int i =>
      refine g2 S env σ H1 _ (o.mono e1) ?_
      simp only at w
      cases hq : q env with
      | no => rw [hq] at w; exact w
      | ex x => rw [hq] at w; exact fun c dx H' e' r => w c dx H' (e1.trans e') r
      | ok f2 d2 =>
        rw [hq] at w
        intro v2 H2 bs e2 r2 _ _
        cases r2 with
        | int j =>
          simp only at w
          split at w
          · rename_i hz
            unfold rgSz at hz
            simp only [Bool.and_eq_true, decide_eq_true_eq] at hz
            exact ⟨i, j, rfl, ⟨by omega, by omega, by omega, by omega⟩, w _ H2 _ _ _ (e1.trans e2) (serves_range i (j - i).toNat) (fun a o z => z.elim) (fun i hi => ⟨[], .nil, noMem⟩) (fun _ a o z => z.elim) fun a o z => z.elim⟩
          · exact w.elim
        | _ => exact (show False from w).elim
    | _ => exact (show False from w).elim

/-! ### targets -/
inductive Tgt where
  | nm (i : Nat) | tp (is : List Nat)
def setAll (env : Env) : List Nat → List D → Option Env
  | [], [] => some env
  | i :: is, d :: ds => setAll (env.set i (.val false d)) is ds
  | _, _ => none
def bindT : Tgt → D → Env → Option Env
  | .nm i, d, env => some (env.set i (.val false d))
  | .tp is, .tup ds, env => setAll env is ds
  | .tp is, .tp0 ds, env => setAll env is ds
  | _, _, _ => none
/-- the same slots of names -/
def setV (σ : L2.St) : List Nat → List V → L2.St
  | i :: is, v :: vs => setV (σ.set i (some v)) is vs
  | _, _ => σ
def slotsOf : Tgt → List Nat
  | .nm i => [i]
  | .tp is => is
theorem look_set {env : Env} {i j : Nat} {s : Sl} {d : D} (h : Env.look (env.set i s) j = some d) : (j = i ∧ s.get = some d) ∨ (j ≠ i ∧ Env.look env j = some d) := by
  unfold Env.look at h ⊢
  by_cases e : j = i
  · subst e
    by_cases hl : j < env.length
    · rw [List.getElem?_set_self hl] at h
      exact .inl ⟨rfl, h⟩
    · rw [List.getElem?_eq_none (by simpa using hl)] at h
      cases h
  · rw [List.getElem?_set_ne (Ne.symm e)] at h
    exact .inr ⟨e, h⟩
theorem look_lt {env : Env} {i : Nat} {d : D} (h : Env.look env i = some d) : i < env.length := by
  unfold Env.look at h
  by_cases hl : i < env.length
  · exact hl
  · rw [List.getElem?_eq_none (by simpa using hl)] at h; cases h
theorem Lens.set {env : Env} {σ : L2.St} {i : Nat} {s : Sl} {v : Option V} (h : Lens env σ) : Lens (env.set i s) (σ.set i v) := by
  unfold Lens at h ⊢; rw [List.length_set, List.length_set]; exact h
theorem ObsEnv.set {S : Addr → Prop} {H : Hp} {env : Env} {σ : L2.St} {i : Nat} {b : Bool} {d : D} {v : V} {as : List Addr} (o : ObsEnv S H env σ) (r : Rep H d v as) (m : ∀ a ∈ as, S a) : ObsEnv S H (env.set i (.val b d)) (σ.set i (some v)) := ⟨o.len.set, fun j d' h => by
  have hj := look_lt h
  rw [List.length_set] at hj
  have hjσ : j < σ.length := Nat.lt_of_lt_of_le hj o.len
  rcases look_set h with ⟨e, hg⟩ | ⟨e, hg⟩
  · subst e
    have e2 : d = d' := Option.some.inj hg
    subst e2
    exact ⟨v, as, by rw [List.getElem?_set_self hjσ], r, m⟩
  · obtain ⟨v', as', h1, h2⟩ := o.get j d' hg
    exact ⟨v', as', by rw [List.getElem?_set_ne (Ne.symm e)]; exact h1, h2⟩⟩
theorem ObsEnv.setAll {S : Addr → Prop} {H : Hp} : ∀ {is : List Nat} {ds : List D} {vs : List V} {as : List Addr} {env env' : Env} {σ : L2.St}, ObsEnv S H env σ → Reps H ds vs as → (∀ a ∈ as, S a) → CB.setAll env is ds = some env' → ObsEnv S H env' (setV σ is vs)
  | [], [], _, _, _, _, _, o, .nil, _, h => by cases h; exact o
  | i :: is, d :: ds, _, _, env, env', σ, o, .cons r rs, m, h => by
    simp only [CB.setAll] at h
    exact ObsEnv.setAll (is := is) (ds := ds) (o.set r fun a q => m a (List.mem_append_left _ q)) rs (fun a q => m a (List.mem_append_right _ q)) h
  | [], _ :: _, _, _, _, _, _, _, _, _, h => by simp [CB.setAll] at h
  | _ :: _, [], _, _, _, _, _, _, _, _, h => by simp [CB.setAll] at h
theorem setAll_len : ∀ {is : List Nat} {ds : List D} {env env' : Env}, setAll env is ds = some env' → is.length = ds.length
  | [], [], _, _, _ => rfl
  | i :: is, d :: ds, env, env', h => by simp only [setAll] at h; rw [List.length_cons, List.length_cons, setAll_len h]
  | [], _ :: _, _, _, h => by simp [setAll] at h
  | _ :: _, [], _, _, h => by simp [setAll] at h
/-- the target's own judgement -/
def tgV : Tgt → V → Hp → L2.St → L2.St → Prop
  | .nm i, v, _, σ, σ' => σ' = σ.set i (some v)
  | .tp is, v, H, σ, σ' => ∃ a vs, v = .ref a ∧ ((∃ o, H a = some (.frz o (.tup vs))) ∨ H a = some (.tup vs)) ∧ σ' = setV σ is vs
def Fits : Tgt → D → Prop
  | .nm _, _ => True
  | .tp is, .tup ds => is.length = ds.length
  | .tp is, .tp0 ds => is.length = ds.length
  | _, _ => False
def SndG (X : Cx) (tg : Expr) (τ : Tgt) : Prop := ∃ g, PG X tg g ∧ ∀ (v : V) (σ : L2.St) (H : Hp) (d : D) (as : List Addr) (Q : L2.St → Hp → Prop), Rep H d v as → Fits τ d → (∀ σ', tgV τ v H σ σ' → Q σ' H) → g v σ H Q
theorem sndg_nm {i : Nat} {x : Str} {pos : Pos} (hN : X.N.Nodup) (hi : X.N[i]? = some x) (hx : Loc X.env.scope x) (hf : X.fn x = true ∨ X.env.scope.names.lookup x = some .local := by first | exact .inl rfl | exact .inr rfl | assumption) : SndG X (.Name x pos) (.nm i) :=
  ⟨_, pg_name hN hi hx hf, fun v σ H d as Q _ _ q => q _ rfl⟩
/-- several names -/
def SndGs (X : Cx) (ts : List Expr) (is : List Nat) : Prop := ∃ g, PGs X ts g ∧ ∀ (vs : List V) (σ : L2.St) (H : Hp) (Q : L2.St → Hp → Prop), vs.length = is.length → Q (setV σ is vs) H → g vs σ H Q
theorem sndgs_nil : SndGs X [] [] := ⟨_, pgs_nil, fun vs σ H Q hl q => by
  have e : vs = [] := List.length_eq_zero_iff.mp hl
  subst e
  exact ⟨rfl, q⟩⟩
theorem sndgs_cons {i : Nat} {x : Str} {pos : Pos} {ts : List Expr} {is : List Nat} (hN : X.N.Nodup) (hi : X.N[i]? = some x) (hx : Loc X.env.scope x) (h : SndGs X ts is) (hf : X.fn x = true ∨ X.env.scope.names.lookup x = some .local := by first | exact .inl rfl | exact .inr rfl | assumption)
    (hs : (assignEach (.Name x pos :: ts) X.env).map (·.2) = assign (.Name x pos) X.env :: (assignEach ts X.env).map (·.2) := by rfl) : SndGs X (.Name x pos :: ts) (i :: is) := by
  obtain ⟨g, h1, h2⟩ := h
  refine ⟨_, pgs_cons (pg_name hN hi hx hf) h1 hs, fun vs σ H Q hl q => ?_⟩
  cases vs with
  | nil => simp at hl
  | cons v vs => exact ⟨v, vs, rfl, h2 vs _ H Q (by simpa using hl) q⟩
theorem sndg_tp {ts : List Expr} {is : List Nat} {k : Nat} {pos : Pos} (hc : X.calm = true) (h : SndGs X ts is) (hn : (assignEach ts X.env).length = is.length := by rfl) (hst : (assignEach ts X.env).findIdx? (·.1) = none := by rfl) : SndG X (.Tuple ts k pos) (.tp is) := by
  obtain ⟨g, h1, h2⟩ := h
  refine ⟨_, pg_tup hc h1 hn hst, fun v σ H d as Q r hl q => ?_⟩
  cases r with
  | @tup a o vs xs _ ha hd s =>
    have e : is.length = xs.length := hl
    exact ⟨a, vs, rfl, SqT.frz ha, by rw [← s.length, e], h2 vs σ H Q (by rw [← s.length, e]) (q _ ⟨a, vs, rfl, .inl ⟨o, ha⟩, rfl⟩)⟩
  | @tp0 a vs xs _ ha s =>
    have e : is.length = xs.length := hl
    exact ⟨a, vs, rfl, .inl (.inl ha), by rw [← s.length, e], h2 vs σ H Q (by rw [← s.length, e]) (q _ ⟨a, vs, rfl, .inr ha, rfl⟩)⟩
  | _ => exact (show False from hl).elim
theorem bindT_ok {S : Addr → Prop} {H : Hp} {env env' : Env} {σ σ' : L2.St} {τ : Tgt} {d : D} {v : V} {as : List Addr} (o : ObsEnv S H env σ) (r : Rep H d v as) (m : ∀ a ∈ as, S a) (h : bindT τ d env = some env') (hg : tgV τ v H σ σ') : ObsEnv S H env' σ' := by
  cases τ with
  | nm i =>
    cases h
    have e : σ' = σ.set i (some v) := hg
    subst e
    exact o.set r m
  | tp is =>
    obtain ⟨a, vs, e1, e2, e3⟩ := hg
    subst e1 e3
    cases r with
    | tup ha hd s =>
      rcases e2 with ⟨o', e2⟩ | e2 <;> rw [ha] at e2 <;> cases e2
      exact o.setAll s m h
    | tp0 ha s =>
      rcases e2 with ⟨o', e2⟩ | e2 <;> rw [ha] at e2 <;> cases e2
      exact o.setAll s m h
    | lst ha s => simp [bindT] at h
    | frz ha s => simp [bindT] at h
    | exc _ _ _ _ _ => simp [bindT] at h
    | excF _ _ _ _ _ _ _ _ => simp [bindT] at h
    | dic _ _ _ _ => simp [bindT] at h
theorem bindT_fits {τ : Tgt} {d : D} {env env' : Env} (h : bindT τ d env = some env') : Fits τ d := by
  cases τ with
  | nm i => exact True.intro
  | tp is => cases d <;> simp only [bindT] at h <;> first | exact setAll_len h | cases h
end
end CB

namespace CB
open PySem L2 PySem.Spec PyProof.Rows
variable [CT]

/-! ### comprehensions that change nothing -/
def wipeE (env : Env) : List Nat → Env
  | [] => env
  | v :: vs => (wipeE env vs).set v .emp
theorem wipeE_length (env : Env) : ∀ vs : List Nat, (wipeE env vs).length = env.length
  | [] => rfl
  | v :: vs => by unfold wipeE; rw [List.length_set, wipeE_length env vs]
theorem wipeE_look {env : Env} {i : Nat} {d : D} : ∀ {vs : List Nat}, Env.look (wipeE env vs) i = some d → Env.look env i = some d ∧ i ∉ vs
  | [], h => ⟨h, by simp⟩
  | v :: vs, h => by
    unfold wipeE at h
    rcases look_set h with ⟨_, h⟩ | ⟨e, h⟩
    · simp [Sl.get] at h
    · obtain ⟨h1, h2⟩ := wipeE_look h
      exact ⟨h1, by simp only [List.mem_cons, not_or]; exact ⟨e, h2⟩⟩
theorem wipe_get {σ : L2.St} {i : Nat} : ∀ {vs : List Nat}, i ∉ vs → (wipe σ vs)[i]? = σ[i]?
  | [], _ => rfl
  | v :: vs, h => by
    simp only [List.mem_cons, not_or] at h
    unfold wipe
    rw [List.getElem?_set_ne (Ne.symm h.1), wipe_get h.2]
theorem ObsEnv.wipe {S : Addr → Prop} {H : Hp} {env : Env} {σ : L2.St} (o : ObsEnv S H env σ) (vs : List Nat) : ObsEnv S H (wipeE env vs) (L2.wipe σ vs) := by
  refine ⟨?_, fun i d h => ?_⟩
  · have := o.len
    unfold Lens at this ⊢; rw [wipeE_length, wipe_length]; exact this
  · obtain ⟨h1, h2⟩ := wipeE_look h
    obtain ⟨v, as, h3, h4⟩ := o.get i d h1
    exact ⟨v, as, by rw [wipe_get h2]; exact h3, h4⟩
/-- a store into a wiped slot is forgotten -/
theorem wipe_set {i : Nat} {x : Option V} : ∀ {vs : List Nat} {σ : L2.St}, i ∈ vs → L2.wipe (σ.set i x) vs = L2.wipe σ vs
  | v :: vs, σ, h => by
    unfold L2.wipe
    by_cases hi : i ∈ vs
    · rw [wipe_set hi]
    · have e : i = v := by simpa [hi] using h
      subst e
      have : ∀ {us : List Nat} {σ : L2.St}, i ∉ us → L2.wipe (σ.set i x) us = (L2.wipe σ us).set i x := by
        intro us
        induction us with
        | nil => intro σ _; rfl
        | cons u us ih =>
          intro σ h
          simp only [List.mem_cons, not_or] at h
          unfold L2.wipe
          rw [ih h.2, List.set_comm _ _ h.1]
      rw [this hi, List.set_set]
theorem wipe_setV : ∀ {is : List Nat} {vs : List V} {us : List Nat} {σ : L2.St}, (∀ i ∈ is, i ∈ us) → L2.wipe (setV σ is vs) us = L2.wipe σ us
  | [], _, _, _, _ => rfl
  | i :: is, [], _, _, _ => rfl
  | i :: is, v :: vs, us, σ, h => by
    unfold setV
    rw [wipe_setV fun j hj => h j (List.mem_cons_of_mem _ hj), wipe_set (h i List.mem_cons_self)]
theorem wipe_wipe (σ : L2.St) (vs : List Nat) : L2.wipe (L2.wipe σ vs) vs = L2.wipe σ vs := by
  have : ∀ (us : List Nat), (∀ u ∈ us, u ∈ vs) → ∀ σ : L2.St, L2.wipe (L2.wipe σ us) vs = L2.wipe σ vs := by
    intro us
    induction us with
    | nil => intro _ σ; rfl
    | cons u us ih =>
      intro h σ
      show L2.wipe ((L2.wipe σ us).set u none) vs = _
      rw [wipe_set (h u List.mem_cons_self), ih fun w hw => h w (List.mem_cons_of_mem _ hw)]
  exact this vs (fun _ h => h) σ
theorem tgV_wipe {τ : Tgt} {v : V} {H : Hp} {σ σ' : L2.St} {vs : List Nat} (h : tgV τ v H σ σ') (hs : ∀ i ∈ slotsOf τ, i ∈ vs) : L2.wipe σ' vs = L2.wipe σ vs := by
  cases τ with
  | nm i =>
    have e : σ' = σ.set i (some v) := h
    subst e
    exact wipe_set (hs i (by simp [slotsOf]))
  | tp is =>
    obtain ⟨a, ws, _, _, e⟩ := h
    subst e
    exact wipe_setV hs

def compL (τ : Tgt) (t el : P) (env : Env) : List D → AR
  | [] => .ok true []
  | x :: xs => match bindT τ x env with
    | none => .no
    | some env1 => match t env1 with
      | .ok _ (.bl true) => match el env1 with
        | .ok f d => match compL τ t el env xs with
          | .ok g ds => .ok (gfl f d && g) (d :: ds)
          | _ => .no
        | _ => .no
      | .ok _ (.bl false) => compL τ t el env xs
      | _ => .no
def comp (vs : List Nat) (τ : Tgt) (ι : I) (t el : P) : P := fun env => match ι env with
  | .ok _ ds => if szOk ds.length then (match compL τ t el (wipeE env vs) ds with
    | .ok g ys => .ok g (.lst ys)
    | _ => .no) else .no
  | .ex x => .ex x
  | .no => .no
def yesP : P := fun _ => .ok true (.bl true)
theorem compL_len {τ : Tgt} {t el : P} {env : Env} : ∀ {ds : List D} {g : Bool} {ys : List D}, compL τ t el env ds = .ok g ys → ys.length ≤ ds.length
  | [], g, ys, h => by cases h; exact Nat.le_refl _
  | x :: xs, g, ys, h => by
    simp only [compL] at h
    split at h
    · cases h
    · split at h
      · split at h
        · split at h
          · rename_i g' ds' he
            cases h
            have := compL_len he
            simp only [List.length_cons]; omega
          · cases h
        · cases h
      · have := compL_len h
        simp only [List.length_cons]; omega
      · cases h

section
variable {X : Cx} {E : XK}
/-- a clause's tests -/
def SndTs (X : Cx) (ifs : List Expr) (p : P) : Prop := ∃ t, PTs X ifs t ∧ ∀ (S : Addr → Prop) env σ H Q, ObsEnv S H env σ → TWant X.mg H Q E0 (p env) → t σ H Q
theorem sndts_nil : SndTs X [] yesP := ⟨_, pts_nil, fun S env σ H Q _ w => w H (Ex.refl H)⟩
theorem sndts_one {c : Expr} {p : P} (h : SndT X E0 c p) : SndTs X [c] p := let ⟨t, a, b⟩ := h; ⟨t, pts_one a, b⟩

/-- what one turn does -/
theorem comp_loop {S : Addr → Prop} {mg : Str → Option Value} {g : TG} {tt : TT} {te : TE} {vs : List Nat} {σ : L2.St} {H1 : Hp} {Dl : Addr} {Q : VK} {J : It} {fx : Addr → HO → Prop} {ds : List D} {cD : Nat → List D} {cV : Nat → List V} {τ : Tgt} {t el : P} {env : Env} {gf : Bool} {ys : List D}
    (o : ObsEnv S H1 env σ) (hS : ∀ a, S a → H1 a ≠ none) (hDl : H1 Dl = none) (sv : Serves J fx ds cD cV) (hfx : Holds fx H1) (hc : ∀ i, i < ds.length → ∃ as, Reps H1 (cD i) (cV i) as ∧ ∀ a ∈ as, S a)
    (hτ : ∀ i ∈ slotsOf τ, i ∈ vs) (hz : szOk ds.length = true)
    (hg : ∀ (v : V) (σ : L2.St) (H : Hp) (d : D) (as : List Addr) (Q : L2.St → Hp → Prop), Rep H d v as → Fits τ d → (∀ σ', tgV τ v H σ σ' → Q σ' H) → g v σ H Q)
    (ht : ∀ (S : Addr → Prop) env σ H Q, ObsEnv S H env σ → TWant mg H Q E0 (t env) → tt σ H Q) (he : ∀ (S : Addr → Prop) env σ H Q, ObsEnv S H env σ → PWant S mg H Q E0 (el env) → te σ H Q)
    (hr : compL τ t el (wipeE env vs) ds = .ok gf ys)
    (hq : ∀ H' ws as, Ex H1 H' → H' Dl = some (.lst ws) → Reps H' ys ws as → (∀ a ∈ as, S a ∨ H1 a = none) → Dl ∉ as → (gf = true → New H1 as) → Q (.ref Dl) H') :
    ∃ W : Nat → Nat → Hp → Prop, (∃ m, W 0 m (upd H1 Dl (.lst []))) ∧ ∀ i m H, W i m H →
      (J.stop i H ∧ Q (.ref Dl) H) ∨ (J.go i H ∧ ∃ Nx : Hp → Prop, (∀ H', Nx H' → ∃ m', m' < m ∧ W (i + 1) m' H') ∧ ∀ x H', J.yld i H x H' → g x (wipe σ vs) H' fun σ2 H2 => wipe σ2 vs = wipe σ vs ∧ tt σ2 H2 fun b H3 =>
        if b = true then te σ2 H3 fun y H4 => ∃ acc, H4 Dl = some (.lst acc) ∧ acc.length < sizeLine ∧ Nx (upd H4 Dl (.lst (acc ++ [y]))) else Nx H3) := by
  -- the word: what is made so far, what is to come
  refine ⟨fun i m H => m = ds.length - i ∧ i ≤ ds.length ∧ ∃ (accD : List D) (accV : List V) (accA : List Addr) (g2 : Bool) (rest : List D), Ex H1 H ∧ H Dl = some (.lst accV) ∧ Reps H accD accV accA ∧ (∀ a ∈ accA, S a ∨ H1 a = none) ∧ Dl ∉ accA ∧ accD.length ≤ i ∧
      compL τ t el (wipeE env vs) (ds.drop i) = .ok g2 rest ∧ ys = accD ++ rest ∧ (gf = true → g2 = true ∧ New H1 accA),
    ⟨ds.length, by simp, Nat.zero_le _, [], [], [], gf, ys, Ex.new hDl, upd_same, .nil, noMem, by simp, Nat.le_refl _, by simpa using hr, rfl, fun z => ⟨z, .nil _⟩⟩, ?_⟩
  rintro i m H' ⟨rfl, hi, accD, accV, accA, g2, rest, e1, hD, ra, ma, na, hlen, hrest, hys, hfl⟩
  have hfx' : Holds fx H' := fun a u h => e1 a u (hfx a u h)
  by_cases hlt : i < ds.length
  · refine .inr ⟨sv.go i H' hlt hfx', fun H'' => (fun i m H => m = ds.length - i ∧ i ≤ ds.length ∧ ∃ (accD : List D) (accV : List V) (accA : List Addr) (g2 : Bool) (rest : List D), Ex H1 H ∧ H Dl = some (.lst accV) ∧ Reps H accD accV accA ∧ (∀ a ∈ accA, S a ∨ H1 a = none) ∧ Dl ∉ accA ∧ accD.length ≤ i ∧
      compL τ t el (wipeE env vs) (ds.drop i) = .ok g2 rest ∧ ys = accD ++ rest ∧ (gf = true → g2 = true ∧ New H1 accA)) (i + 1) (ds.length - (i + 1)) H'', fun H'' w => ⟨_, by omega, w⟩, fun x H2 hy => ?_⟩
    have hdi : ds[i]? = some ds[i] := by simp
    obtain ⟨e2, ry⟩ := sv.yld i H' x H2 hfx' hy ds[i] hdi
    obtain ⟨as, rc, mc⟩ := hc i hlt
    have rx := ry as (rc.mono e1)
    rw [List.drop_eq_getElem_cons hlt] at hrest
    simp only [compL] at hrest
    cases hb : bindT τ ds[i] (wipeE env vs) with
    | none => rw [hb] at hrest; cases hrest
    | some env1 =>
      rw [hb] at hrest
      refine hg x (wipe σ vs) H2 ds[i] as _ rx (bindT_fits hb) fun σ' hσ' => ⟨?_, ?_⟩
      · rw [tgV_wipe hσ' hτ, wipe_wipe]
      have oW : ObsEnv S H2 (wipeE env vs) (wipe σ vs) := (o.wipe vs).mono (e1.trans e2)
      have o2 := bindT_ok oW rx mc hb hσ'
      simp only at hrest
      refine ht S env1 σ' H2 _ o2 ?_
      cases htv : t env1 with
      | no => rw [htv] at hrest; cases hrest
      | ex z => rw [htv] at hrest; cases hrest
      | ok ft dt =>
        rw [htv] at hrest
        cases dt with
        | bl b =>
          intro H3 e3
          cases b with
          | false =>
            refine iteF ⟨rfl, hlt, accD, accV, accA, g2, rest, (e1.trans e2).trans e3, e3 _ _ (e2 _ _ hD), (ra.mono e2).mono e3, ma, na, by omega, hrest, hys, hfl⟩
          | true =>
            refine iteT (he S env1 σ' H3 _ (o2.mono e3) ?_)
            simp only at hrest
            cases hev : el env1 with
            | no => rw [hev] at hrest; cases hrest
            | ex z => rw [hev] at hrest; cases hrest
            | ok f d =>
              rw [hev] at hrest
              simp only at hrest
              cases hre : compL τ t el (wipeE env vs) (ds.drop (i + 1)) with
              | no => rw [hre] at hrest; cases hrest
              | ex z => rw [hre] at hrest; cases hrest
              | ok g3 rest3 =>
                rw [hre] at hrest
                simp only [AR.ok.injEq] at hrest
                obtain ⟨eg, er⟩ := hrest
                intro y H4 bs e4 r4 m4 n4
                have hD4 : H4 Dl = some (.lst accV) := e4 _ _ (e3 _ _ (e2 _ _ hD))
                have e14 : Ex H1 H4 := ((e1.trans e2).trans e3).trans e4
                have ra4 : Reps H4 accD accV accA := ((ra.mono e2).mono e3).mono e4
                have hlA := ra4.length
                have nDb : Dl ∉ bs := fun h => by
                  rcases m4 Dl h with z | z
                  · exact hS Dl z hDl
                  · have := e3 _ _ (e2 _ _ hD)
                    rw [this] at z; cases z
                have kp : ∀ {d : D} {v : V} {cs : List Addr}, Rep H4 d v cs → Dl ∉ cs → Rep (upd H4 Dl (.lst (accV ++ [y]))) d v cs := fun {d v cs} r h => r.keep fun a u ha hz => by
                  have ne : a ≠ Dl := by
                    rintro rfl
                    rcases hz with z | z
                    · exact h z
                    · rw [hD4] at ha; cases ha; cases z
                  rw [upd_ne ne]; exact ha
                have kps : ∀ {d : List D} {v : List V} {cs : List Addr}, Reps H4 d v cs → Dl ∉ cs → Reps (upd H4 Dl (.lst (accV ++ [y]))) d v cs := fun {d v cs} r h => r.keep fun a u ha hz => by
                  have ne : a ≠ Dl := by
                    rintro rfl
                    rcases hz with z | z
                    · exact h z
                    · rw [hD4] at ha; cases ha; cases z
                  rw [upd_ne ne]; exact ha
                refine ⟨accV, hD4, ?_, rfl, hlt, accD ++ [d], accV ++ [y], accA ++ (bs ++ []), g3, rest3, ?_, upd_same, (kps ra4 na).append (.cons (kp r4 nDb) .nil), ?_, ?_, ?_, hre, ?_, ?_⟩
                · rw [← hlA]
                  have := szOk_lt hz
                  omega
                · intro a u ha
                  have ne : a ≠ Dl := fun z => by rw [z, hDl] at ha; cases ha
                  rw [upd_ne ne]; exact e14 a u ha
                · intro a ha
                  rw [List.append_nil] at ha
                  rcases List.mem_append.mp ha with z | z
                  · exact ma a z
                  · exact (m4 a z).imp_right fun q => ((e1.trans e2).trans e3).back q
                · rw [List.append_nil]
                  exact fun h => (List.mem_append.mp h).elim na nDb
                · rw [List.length_append]; simp; omega
                · rw [hys, ← er]; simp
                · intro z
                  obtain ⟨z1, z2⟩ := hfl z
                  rw [← eg, Bool.and_eq_true] at z1
                  refine ⟨z1.2, ?_⟩
                  rw [List.append_nil]
                  have nb : New H3 bs := gfl_new z1.1 r4 n4
                  exact New.app ((e1.trans e2).trans e3) z2 nb ((ra.mono e2).mono e3).ne
        | _ => cases hrest
  · have e : i = ds.length := by omega
    subst e
    refine .inl ⟨sv.stop _ H' (Nat.le_refl _) hfx', ?_⟩
    simp only [List.drop_length, compL] at hrest
    cases hrest
    rw [List.append_nil] at hys
    subst hys
    exact hq H' accV accA e1 hD ra ma na fun z => (hfl z).2

/-! readings that do not lean on the context -/
def cE (mg : Str → Option Value) (E : XK) (p : P) : TE := fun σ H Q => ∃ S env, ObsEnv S H env σ ∧ PWant S mg H Q E (p env)
def cTs (mg : Str → Option Value) (p : P) : TT := fun σ H Q => ∃ S env, ObsEnv S H env σ ∧ TWant mg H Q E0 (p env)
def cG (τ : Tgt) : TG := fun v σ H Q => ∃ d as, Rep H d v as ∧ Fits τ d ∧ ∀ σ', tgV τ v H σ σ' → Q σ' H
theorem SndP.c {e : Expr} {p : P} (h : SndP X E e p) : PE X e (cE X.mg E p) := by
  obtain ⟨t, h1, h2⟩ := h
  exact ⟨fun pins s σ H Q I ⟨S, env, o, w⟩ => h1.run pins s σ H Q I (h2 S env σ H Q o w)⟩
theorem SndTs.c {ifs : List Expr} {p : P} (h : SndTs X ifs p) : PTs X ifs (cTs X.mg p) := by
  obtain ⟨t, h1, h2⟩ := h
  exact ⟨fun pins s σ H Q I ⟨S, env, o, w⟩ => h1.run pins s σ H Q I (h2 S env σ H Q o w)⟩
theorem SndG.c {tg : Expr} {τ : Tgt} (h : SndG X tg τ) : PG X tg (cG τ) := by
  obtain ⟨g, h1, h2⟩ := h
  exact ⟨fun pins s σ H v u Q I r ⟨d, as, r1, f1, q⟩ => h1.run pins s σ H v u Q I r (h2 v σ H d as Q r1 f1 q)⟩
/-- a block's context -/
abbrev Blk (X : Cx) (scope : Scope) (φ : Cx → Prop) : Prop := ∀ (s : Shared) (H : Hp) (C : Addr) (cl : List (Str × Addr)) (fp : List Addr), φ (X.blk s H scope (compEnvC scope cl C X.env) fp)
theorem comp_read {iter tg : Expr} {ι : I} {τ : Tgt} {t el : P} {vs : List Nat} (hi : SndI X E tg iter ι) (hτ : ∀ i ∈ slotsOf τ, i ∈ vs) :
    ∃ wi, PI X tg iter wi ∧ ∀ (S : Addr → Prop) env σ H Q, ObsEnv S H env σ → PWant S X.mg H Q E (comp vs τ ι t el env) → tLc wi (cG τ) (cTs X.mg t) (cE X.mg E0 el) vs σ H Q := by
  obtain ⟨wi, h1, h2⟩ := hi
  refine ⟨wi, h1, fun S env σ H Q o w => h2 S env σ H _ o ?_⟩
  unfold comp at w
  cases hι : ι env with
  | no => rw [hι] at w; exact w
  | ex x => rw [hι] at w; exact w
  | ok f ds =>
    rw [hι] at w
    simp only at w
    intro J H1 fx cD cV e1 sv hfx hc _ _ Dl hDl
    split at w
    · rename_i hz
      cases hr : compL τ t el (wipeE env vs) ds with
      | no => rw [hr] at w; exact w.elim
      | ex x => rw [hr] at w; exact w.elim
      | ok g ys =>
        rw [hr] at w
        -- the nodes are kept to S and the new ones
        have o2 : ObsEnv (fun a => (S a ∨ H a = none) ∧ H1 a ≠ none) H1 env σ := ⟨o.len, fun i d h => by
          obtain ⟨v, as, a1, a2, a3⟩ := (o.mono e1).get i d h
          exact ⟨v, as, a1, a2, fun a m => ⟨.inl (a3 a m), a2.ne a m⟩⟩⟩
        refine comp_loop (mg := X.mg) (S := fun a => (S a ∨ H a = none) ∧ H1 a ≠ none) o2 (fun a z => z.2) hDl sv hfx (fun i hi => ?_) hτ hz (fun v σ H d as Q r f q => ⟨d, as, r, f, q⟩) (fun S env σ H Q o w => ⟨S, env, o, w⟩) (fun S env σ H Q o w => ⟨S, env, o, w⟩) hr fun H' ws as e2 hD rs ms nD nw => ?_
        · obtain ⟨as, a1, a2⟩ := hc i hi
          exact ⟨as, a1, fun a m => ⟨a2 a m, a1.ne a m⟩⟩
        · refine w (.ref Dl) H' (Dl :: as) (e1.trans e2) (.lst hD rs) (fun a m => ?_) fun z => ?_
          · rcases List.mem_cons.mp m with q | m
            · rw [q]; exact .inr (e1.back hDl)
            · rcases ms a m with q | q
              · exact q.1
              · exact .inr (e1.back q)
          · have n := nw z
            refine ⟨List.nodup_cons.mpr ⟨nD, n.1⟩, fun a m => ?_⟩
            rcases List.mem_cons.mp m with q | m
            · rw [q]; exact e1.back hDl
            · exact e1.back (n.2 a m)
    · exact w.elim
theorem snd_comp {elt tg iter : Expr} {ifs : List Expr} {scope : Scope} {own : List (Str × Nat)} {pos : Pos} {ι : I} {τ : Tgt} {t el : P} (hc : X.calm = true) (hN : X.N.Nodup) (hi : SndI X E tg iter ι) (ok : BlkOk X.N X.env.scope scope own)
    (hg : Blk X scope fun Y => SndG Y tg τ) (ht : Blk X scope fun Y => SndTs Y ifs t) (he : Blk X scope fun Y => SndP Y E0 elt el) (hτ : ∀ i ∈ slotsOf τ, i ∈ own.map (·.2) := by decide) (hs : ∀ x, foldedSetIterable iter X.env x = pure x := by intro _; rfl) :
    SndP X E (.ListComp elt [⟨tg, iter, ifs, 0⟩] scope pos) (comp (own.map (·.2)) τ ι t el) := by
  obtain ⟨wi, h1, h2⟩ := comp_read (t := t) (el := el) hi hτ
  exact ⟨_, pe_lc hc hN h1 ok (fun s H C cl fp => (hg s H C cl fp).c) (fun s H C cl fp => (ht s H C cl fp).c) (fun s H C cl fp => (he s H C cl fp).c) hs, h2⟩
end
end CB

namespace CB
open PySem L2 PySem.Spec PyProof.Rows
variable [CT]

/-! ### promises of defs, where nothing is being shown: the guards are known -/
structure RoomG (k : Nat) (A : Around) : Prop extends Room k A where
  gd : A.guards = some []
omit [CT] in
theorem RoomG.mono {i k : Nat} {A : Around} (r : RoomG k A) (h : i ≤ k) : RoomG i A := ⟨r.toRoom.mono h, r.gd⟩
omit [CT] in
theorem RoomG.deeper {k : Nat} {A : Around} (r : RoomG (k + 1) A) (en : PySem.Env) : RoomG k (A.deeper en) := ⟨r.toRoom.deeper en, r.gd⟩
structure FnOkG (P' : Program) (w : World) (K : PySem.W.Frag) (mg : Str → Option Value) (base : Heap) (CX : CXT) (k : Nat) (f : Addr) (fd : FuncData) (pn : List Str) (sp : Sp) : Prop where
  len : ∀ xs H Q E, sp xs H Q E → xs.length = pn.length
  run : ∀ {A : Around} {out : List PySem.Env} {s : Shared} {H : Hp} {ar : Args} {ws : List Value} {xs : List V} {Q : VK} {E : XK}, RoomG k A → Env0 P' w K mg base A out s H → BindsTo s fd ar (pn.zip ws) → Vals xs ws → sp xs H Q E → codeAny (model P' w) A (.call (.ref f) ar) (CR CX out P' w H s Q E) s
omit [CT] in
theorem FnOkG.imp {P' : Program} {w : World} {K : PySem.W.Frag} {mg : Str → Option Value} {base : Heap} {CX : CXT} {k : Nat} {f : Addr} {fd : FuncData} {pn : List Str} {sp sp' : Sp} (F : FnOkG P' w K mg base CX k f fd pn sp) (h : ∀ xs H Q E, sp' xs H Q E → sp xs H Q E) : FnOkG P' w K mg base CX k f fd pn sp' :=
  ⟨fun xs H Q E q => F.len xs H Q E (h xs H Q E q), fun a b c d e => F.run a b c d (h _ _ _ _ e)⟩
section
variable {X : Cx} {CX : CXT} {k : Nat} {f : Addr} {fd : FuncData} {pn : List Str} {sp : Sp} {x : Str} {p pos : Pos} {e : Expr} {es : List Expr} {t : TA}
omit [CT] in
theorem callG_ok {E : XK} {pins : List (Addr × Obj)} {σ : L2.St} {H : Hp} {s : Shared} {Q : VK} {ws : List Value} {xs : List V} (F : FnOkG X.prog X.w X.K X.mg X.base CX k f fd pn sp) (hr : RoomG k X.A) (hb : Binds X.K fd pn []) (hx : ∀ z s', CX X.stack H s E z s' → X.xe z s')
    (I : L2.Inv X pins σ H s) (r : Vals xs ws) (h : sp xs H Q E) : wpAny (model X.prog X.w) X.A (call (.ref f) ws) (EP X pins σ Q) X.xe s := by
  have hl : (ws ++ []).length = pn.length := by rw [List.append_nil, ← r.length]; exact F.len _ _ _ _ h
  have bd := hb s ws I.kIn hl
  rw [List.append_nil] at bd
  refine wpAny_call (codeAny_mono (F.run hr I.env0 bd r h) fun rr s' hq => ?_)
  rcases rr with z | fl
  · exact hx z s' hq
  · cases fl <;> first | exact I.after hq | exact hq.elim
omit [CT] in
theorem pe_callG {E : XK} (F : FnOkG X.prog X.w X.K X.mg X.base CX k f fd pn sp) (hr : RoomG k X.A) (hg : Gl X x) (hm : X.mg x = some (.ref f)) (hk : PySem.W.keepIn X.K (.ref f) = true) (hb : Binds X.K fd pn []) (hx : Passes CX X E) (ha : PA X (e :: es) t)
    (hdb : (x == ("__debug__" : Str)) = false) (he : starEach (e :: es) X.env = (false, eval e X.env) :: starEach es X.env) (hpl : (backTo pos (starEach es X.env)).any (·.1) = false) : PE X (.Call (.Name x p) (e :: es) [] pos) (tCall sp [] E t) :=
  ⟨fun pins s σ H Q I h => wpAny_Call_Name_kw (ld_glob I hg hm (PySem.W.callWith_K (h₀ := X.base) I.ok.mod.kin hk (thn (ha.run pos pins s σ H _ I h) fun us s1 ⟨vs, H1, I1, r, q⟩ => ⟨I1.kIn, callG_ok F hr hb (fun z s' => hx pins σ H1 s1 z s' I1) I1 r ((congrArg (fun z => sp z H1 Q E) (List.append_nil vs)).mp q)⟩) he hpl) hdb)⟩
omit [CT] in
theorem pe_call0G {E : XK} (F : FnOkG X.prog X.w X.K X.mg X.base CX k f fd pn sp) (hr : RoomG k X.A) (hg : Gl X x) (hm : X.mg x = some (.ref f)) (hk : PySem.W.keepIn X.K (.ref f) = true) (hb : Binds X.K fd pn []) (hx : Passes CX X E)
    (hdb : (x == ("__debug__" : Str)) = false) : PE X (.Call (.Name x p) [] [] pos) (tCall sp [] E tNil) :=
  ⟨fun pins s σ H Q I h => wpAny_Call_Name_kw (ld_glob I hg hm (PySem.W.callWith_K0 I.kIn hk (callG_ok (ws := []) F hr hb (fun z s' => hx pins σ H s z s' I) I .nil h)) hdb)⟩
omit [CT] in
theorem pe_callSG {E : L2.St → XK} (F : FnOkG X.prog X.w X.K X.mg X.base CX k f fd pn sp) (hr : RoomG k X.A) (hg : Gl X x) (hm : X.mg x = some (.ref f)) (hk : PySem.W.keepIn X.K (.ref f) = true) (hb : Binds X.K fd pn []) (hx : ∀ σ, PassesAt CX X σ (E σ)) (ha : PA X (e :: es) t)
    (hdb : (x == ("__debug__" : Str)) = false) (he : starEach (e :: es) X.env = (false, eval e X.env) :: starEach es X.env) (hpl : (backTo pos (starEach es X.env)).any (·.1) = false) : PE X (.Call (.Name x p) (e :: es) [] pos) (tCallS sp E t) :=
  ⟨fun pins s σ H Q I h => wpAny_Call_Name_kw (ld_glob I hg hm (PySem.W.callWith_K (h₀ := X.base) I.ok.mod.kin hk (thn (ha.run pos pins s σ H _ I h) fun us s1 ⟨vs, H1, I1, r, q⟩ => ⟨I1.kIn, callG_ok F hr hb (fun z s' => hx σ pins H1 s1 z s' I1) I1 r q⟩) he hpl) hdb)⟩
omit [CT] in
/-- a def by its body -/
theorem okXG {P' : Program} {w : World} {K : PySem.W.Frag} {mg : Str → Option Value} {base : Heap} {qual : Str} {st : Stmt} {NN : List Str} (F : Fun K x qual st f fd) (S : FnScope NN pn (defScope st)) (len : ∀ xs H Q E, sp xs H Q E → xs.length = pn.length)
    (hbody : ∀ (cdv : Value) (A : Around) (out : List PySem.Env) (s : Shared) (H : Hp) (xs : List V) (Q : VK) (E : XK), RoomG k (A.deeper (envOfC qual (defScope st) s.heap.objs.size f cdv)) → sp xs H Q E →
      ∃ t, PSs (cxOf (L2.CX P' w) P' w K mg base NN qual (defScope st) f cdv A out s H E) (defBody st) t ∧ t { rt := Q, nx := fun _ H' => Q .non H' } (L2.start NN xs) H) : FnOkG P' w K mg base (L2.CX P' w) (k + 1) f fd pn sp := by
  obtain ⟨_, _, _, _, _, _, cdv, _, _, rfl, lk, hcd⟩ := F.ex
  refine ⟨len, fun {A out s H ar ws xs Q E} room e0 bnd rel want => ?_⟩
  have kin : K.In s.heap := e0.mod.kin.keeps fun b o z => (e0.bs b o z).1
  refine codeAny_call_function room.depth (kin _ _ lk) rfl S.co S.gen rfl (PySem.W.codeRec_of kin hcd) (bnd _ _ _ _ (wpAny_newFunctionEnv_cells S.kind (fun y hy => (S.par y.1 (List.of_mem_zip hy).1).imp id fun q => ⟨q, PySem.W.cellsFrom_some _ _ _ (.inl q)⟩) fun en he s1 ic => ?_))
  subst he
  refine ⟨(e0.mod.nolimit.keeps fun b o z => (e0.bs b o z).1).keeps ic.toInCall.keep, codeAny_func ?_⟩
  obtain ⟨t, ht, hq⟩ := hbody cdv A out s H xs Q E (room.deeper _) want
  refine wpAny_mono (ht.run [] s1 (L2.start NN xs) H _ (inv_start S room.hd e0 (len _ _ _ _ want) rel ic) hq) (fun fl s' hs => ?_) fun z s' hs => hs
  cases fl with
  | ret u => exact let ⟨v, _, H', J, rv, q⟩ := hs; ⟨v, H', J.os, J.bare, J.base, J.hok, rv, q⟩
  | next => exact let ⟨_, H', J, q⟩ := hs; ⟨.non, H', J.os, J.bare, J.base, J.hok, rfl, q⟩
  | brk => exact let ⟨_, _, _, q⟩ := hs; q.elim
  | cont => exact let ⟨_, _, _, q⟩ := hs; q.elim
end

/-! ### calls of defs that change nothing -/
def spF (n : Nat) (mg : Str → Option Value) (F : List D → PR) : Sp := fun vs H Q E => vs.length = n ∧ ∃ ds as, Reps H ds vs as ∧ PWant (fun a => a ∈ as) mg H Q E (F ds)
def callP (F : List D → PR) (ps : List P) : P := fun env => (args ps env).bind fun _ ds => F ds
theorem args_len : ∀ {ps : List P} {env : Env} {g : Bool} {ds : List D}, args ps env = .ok g ds → ds.length = ps.length
  | [], _, _, _, h => by cases h; rfl
  | p :: ps, env, g, ds, h => by
    simp only [args] at h
    split at h
    · split at h
      · rename_i e; cases h; rw [List.length_cons, List.length_cons, args_len e]
      · cases h
      · cases h
    · cases h
    · cases h
section
variable {X : Cx} {E : XK}
theorem spF_of {S : Addr → Prop} {n : Nat} {H H1 : Hp} {Q : VK} {F : List D → PR} {ds : List D} {vs : List V} {as : List Addr} (e1 : Ex H H1) (r : Reps H1 ds vs as) (m : ∀ a ∈ as, S a ∨ H a = none) (hn : ds.length = n) (w : PWant S X.mg H Q E (F ds)) : spF n X.mg F (vs ++ []) H1 Q E := by
  rw [List.append_nil]
  refine ⟨by rw [← r.length]; exact hn, ds, as, r, ?_⟩
  cases hF : F ds with
  | no => rw [hF] at w; exact w
  | ex x => rw [hF] at w; exact fun c dx H' e' r => w c dx H' (e1.trans e') r
  | ok f d =>
    rw [hF] at w
    exact fun v H' cs e' r' m' n' => w v H' cs (e1.trans e') r' (fun a h => (m' a h).elim (m a) fun z => .inr (e1.back z)) fun z => (n' z).back e1
variable {CX : CXT} {k n : Nat} {f : Addr} {fd : FuncData} {pn : List Str} {F : List D → PR} {x : Str} {p pos : Pos} {e : Expr} {es : List Expr} {ps : List P}
theorem snd_call (G : FnOkG X.prog X.w X.K X.mg X.base CX k f fd pn (spF n X.mg F)) (hr : RoomG k X.A) (hg : Gl X x) (hm : X.mg x = some (.ref f)) (hk : PySem.W.keepIn X.K (.ref f) = true) (hb : Binds X.K fd pn []) (hx : Passes CX X E) (h : SndA X E (e :: es) ps) (hn : ps.length = n := by rfl)
    (hdb : (x == ("__debug__" : Str)) = false := by decide) (he : starEach (e :: es) X.env = (false, eval e X.env) :: starEach es X.env := by rfl) (hpl : (backTo pos (starEach es X.env)).any (·.1) = false := by rfl) : SndP X E (.Call (.Name x p) (e :: es) [] pos) (callP F ps) := by
  obtain ⟨t, h1, h2⟩ := h
  refine ⟨_, pe_callG G hr hg hm hk hb hx h1 hdb he hpl, fun S env σ H Q o w => h2 S env σ H _ o ?_⟩
  unfold callP at w
  cases hp : args ps env with
  | no => rw [hp] at w; exact w
  | ex x => rw [hp] at w; exact w
  | ok g ds =>
    rw [hp] at w
    intro vs H1 as e1 r1 m1 _
    exact spF_of e1 r1 m1 (by rw [args_len hp, hn]) w
theorem snd_call0 (G : FnOkG X.prog X.w X.K X.mg X.base CX k f fd pn (spF 0 X.mg F)) (hr : RoomG k X.A) (hg : Gl X x) (hm : X.mg x = some (.ref f)) (hk : PySem.W.keepIn X.K (.ref f) = true) (hb : Binds X.K fd pn []) (hx : Passes CX X E)
    (hdb : (x == ("__debug__" : Str)) = false := by decide) : SndP X E (.Call (.Name x p) [] [] pos) (callP F []) := by
  refine ⟨_, pe_call0G G hr hg hm hk hb hx hdb, fun S env σ H Q o w => ?_⟩
  exact spF_of (S := S) (Ex.refl H) Reps.nil noMem rfl w
end

/-! ### states that may be changed -/
inductive Lb where
  | slot (i : Nat) | tmp (j : Nat)
  deriving DecidableEq
abbrev Lab := Addr → Option Lb
def Held (φ : Lab) (H : Hp) (M : Addr → Prop) (l : Lb) (o : Bool) (d : D) (v : V) : Prop := ∃ as, Rep H d v as ∧ (∀ a ∈ as, M a) ∧ (∀ a ∈ as, φ a = if o = true then some l else none) ∧ (o = true → as.Nodup)
def SlOk (pin : Nat → Option V) (φ : Lab) (H : Hp) (M : Addr → Prop) (i : Nat) (s : Sl) (w : Option (Option V)) : Prop := match s with
  | .emp => True
  | .val o d => ∃ v, w = some (some v) ∧ Held φ H M (.slot i) o d v
  | .ref d => ∃ v, w = some (some v) ∧ pin i = some v ∧ Held φ H M (.slot i) true d v
  | .pin => ∃ v, w = some (some v) ∧ pin i = some v
abbrev Tmp := Bool × D × V
structure Good (M N : Addr → Prop) (fx : Addr → HO → Prop) (pin : Nat → Option V) (φ : Lab) (H : Hp) (env : Env) (σ : L2.St) (ts : List Tmp) : Prop where
  len : Lens env σ
  fix : ∀ a o, fx a o → H a = some o ∧ φ a = none
  own : ∀ a, φ a ≠ none → N a ∧ ∃ o, H a = some o ∧ Imm o = false
  free : ∀ p, (∀ o, ¬ fx p o) → N p ∧ M p
  slot : ∀ i s, env[i]? = some s → SlOk pin φ H M i s σ[i]?
  tmp : ∀ j t, ts[j]? = some t → Held φ H M (.tmp j) t.1 t.2.1 t.2.2
section
variable {M N : Addr → Prop} {fx : Addr → HO → Prop} {pin : Nat → Option V} {φ φ' : Lab} {H H' : Hp} {env : Env} {σ : L2.St} {ts : List Tmp}
theorem Held.obs {l : Lb} {o : Bool} {d : D} {v : V} (h : Held φ H M l o d v) : ∃ as, Rep H d v as ∧ ∀ a ∈ as, M a := let ⟨as, a, b, _⟩ := h; ⟨as, a, b⟩
theorem Good.obs (g : Good M N fx pin φ H env σ ts) : ObsEnv M H env σ := ⟨g.len, fun i d h => by
  unfold Env.look at h
  cases e : env[i]? with
  | none => rw [e] at h; cases h
  | some s =>
    rw [e] at h
    have k := g.slot i s e
    cases s with
    | emp => cases h
    | pin => cases h
    | val o d' =>
      cases h
      obtain ⟨v, h1, h2⟩ := k
      obtain ⟨as, h3, h4⟩ := h2.obs
      exact ⟨v, as, h1, h3, h4⟩
    | ref d' =>
      cases h
      obtain ⟨v, h1, _, h2⟩ := k
      obtain ⟨as, h3, h4⟩ := h2.obs
      exact ⟨v, as, h1, h3, h4⟩⟩
/-- the values stay when their nodes and labels stay -/
theorem Held.keep {l l' : Lb} {o : Bool} {d : D} {v : V} (h : Held φ H M l o d v) (k : ∀ as, Rep H d v as → (∀ a ∈ as, φ a = if o = true then some l else none) → Rep H' d v as ∧ ∀ a ∈ as, φ' a = if o = true then some l' else none) : Held φ' H' M l' o d v := by
  obtain ⟨as, h1, h2, h3, h4⟩ := h
  obtain ⟨k1, k2⟩ := k as h1 h3
  exact ⟨as, k1, h2, k2, h4⟩
theorem SlOk.keep {i : Nat} {s : Sl} {w : Option (Option V)} (h : SlOk pin φ H M i s w) (k : ∀ o d v, Held φ H M (.slot i) o d v → Held φ' H' M (.slot i) o d v) : SlOk pin φ' H' M i s w := by
  cases s with
  | emp => trivial
  | pin => exact h
  | val o d => obtain ⟨v, h1, h2⟩ := h; exact ⟨v, h1, k _ _ _ h2⟩
  | ref d => obtain ⟨v, h1, h0, h2⟩ := h; exact ⟨v, h1, h0, k _ _ _ h2⟩
/-- the heap grows -/
theorem Good.ext (g : Good M N fx pin φ H env σ ts) (e : Ex H H') : Good M N fx pin φ H' env σ ts where
  len := g.len
  fix := fun a o h => ⟨e a o (g.fix a o h).1, (g.fix a o h).2⟩
  own := fun a h => let ⟨h1, vs, h2, h3⟩ := g.own a h; ⟨h1, vs, e a _ h2, h3⟩
  free := g.free
  slot := fun i s h => (g.slot i s h).keep fun o d v k => k.keep fun as r q => ⟨r.mono e, q⟩
  tmp := fun j t h => (g.tmp j t h).keep fun as r q => ⟨r.mono e, q⟩
/-- a new own value -/
def lbl (φ : Lab) (as : List Addr) (l : Lb) : Lab := fun a => if a ∈ as then some l else φ a
theorem Good.lab_none (g : Good M N fx pin φ H env σ ts) {a : Addr} (h : H a = none) : φ a = none := by
  cases e : φ a with
  | none => rfl
  | some l =>
    obtain ⟨_, vs, q, _⟩ := g.own a (by rw [e]; exact fun z => nomatch z)
    rw [h] at q; cases q
theorem Good.fresh (g : Good M N fx pin φ H env σ ts) {p : Addr} (h : H p = none) : N p ∧ M p := g.free p fun o z => by
  rw [(g.fix p o z).1] at h; cases h
theorem Good.push (g : Good M N fx pin φ H env σ ts) (e : Ex H H') {d : D} {v : V} {as : List Addr} (r : Rep H' d v as) (n : New H as) : Good M N fx pin (lbl φ as (.tmp ts.length)) H' env σ (ts ++ [(true, d, v)]) := by
  have g' := g.ext e
  have out : ∀ {a : Addr}, φ a ≠ none → a ∉ as := fun {a} h z => h (g.lab_none (n.2 a z))
  have kp : ∀ {l : Lb} {o : Bool} {d : D} {v : V}, Held φ H M l o d v → Held (lbl φ as (.tmp ts.length)) H' M l o d v := fun {l o d v} k => k.keep fun bs rb q => ⟨rb.mono e, fun a ha => by
    have : a ∉ as := fun z => by
      obtain ⟨vs, x, _⟩ := rb.there a ha
      rw [n.2 a z] at x; cases x
    unfold lbl
    rw [if_neg this]
    exact q a ha⟩
  refine ⟨g.len, fun a o h => ⟨(g'.fix a o h).1, ?_⟩, fun a h => ?_, g.free, fun i s h => (g.slot i s h).keep fun o d v k => kp k, fun j t h => ?_⟩
  · have : a ∉ as := fun z => by
      have := (g.fix a o h).1
      rw [n.2 a z] at this; cases this
    unfold lbl
    rw [if_neg this]
    exact (g.fix a o h).2
  · by_cases z : a ∈ as
    · exact ⟨(g.fresh (n.2 a z)).1, r.there a z⟩
    · unfold lbl at h
      rw [if_neg z] at h
      exact g'.own a h
  · by_cases hj : j < ts.length
    · rw [List.getElem?_append_left hj] at h
      exact kp (g.tmp j t h)
    · have hj' : j = ts.length := by
        have := (List.getElem?_eq_some_iff.mp h).1
        simp at this; omega
      subst hj'
      simp at h
      subst h
      refine ⟨as, r, fun a ha => (g.fresh (n.2 a ha)).2, fun a ha => ?_, fun _ => n.1⟩
      unfold lbl
      rw [if_pos ha]; rfl
/-- a slot's value is shared from now on -/
def demS : Sl → Sl
  | .emp => .emp
  | .val _ d => .val false d
  | .ref d => .val false d
  | .pin => .pin
def demK : List Nat → Env → Env
  | [], env => env
  | k :: ks, env => demK ks (match env[k]? with
    | some s => env.set k (demS s)
    | none => env)
def unl (φ : Lab) (k : Nat) : Lab := fun a => if φ a = some (.slot k) then none else φ a
theorem Held.unl {l : Lb} {o : Bool} {d : D} {v : V} {k : Nat} (h : Held φ H M l o d v) (hl : l ≠ .slot k) : Held (CB.unl φ k) H M l o d v := h.keep fun as r q => ⟨r, fun a ha => by
  unfold CB.unl
  rw [q a ha]
  cases o with
  | true => simp [hl]
  | false => simp⟩
theorem Held.dem {k : Nat} {o : Bool} {d : D} {v : V} (h : Held φ H M (.slot k) o d v) : Held (CB.unl φ k) H M (.slot k) false d v := let ⟨as, a, b, c, _⟩ := h; ⟨as, a, b, fun x hx => by
  unfold CB.unl
  rw [c x hx]
  cases o <;> simp, fun z => nomatch z⟩
theorem Good.dem1 (g : Good M N fx pin φ H env σ ts) {k : Nat} {s0 : Sl} (e0 : env[k]? = some s0) : Good M N fx pin (unl φ k) H (env.set k (demS s0)) σ ts where
  len := by have := g.len; unfold Lens at *; rw [List.length_set]; exact this
  fix := fun a o h => ⟨(g.fix a o h).1, by unfold unl; rw [(g.fix a o h).2]; simp⟩
  own := fun a h => g.own a fun z => h (by unfold unl; rw [z]; simp)
  free := g.free
  slot := fun i s h => by
    by_cases hi : i = k
    · subst hi
      have hl : i < env.length := (List.getElem?_eq_some_iff.mp e0).1
      rw [List.getElem?_set_self hl] at h
      cases h
      have q := g.slot i s0 e0
      cases s0 with
      | emp => trivial
      | pin => exact q
      | val o d => obtain ⟨v, h1, h2⟩ := q; exact ⟨v, h1, h2.dem⟩
      | ref d => obtain ⟨v, h1, _, h2⟩ := q; exact ⟨v, h1, h2.dem⟩
    · rw [List.getElem?_set_ne (Ne.symm hi)] at h
      exact (g.slot i s h).keep fun o d v q => q.unl fun z => hi (by cases z; rfl)
  tmp := fun j t h => (g.tmp j t h).unl fun z => nomatch z
theorem Good.dem0 (g : Good M N fx pin φ H env σ ts) {k : Nat} (e0 : env[k]? = none) : Good M N fx pin (unl φ k) H env σ ts where
  len := g.len
  fix := fun a o h => ⟨(g.fix a o h).1, by unfold unl; rw [(g.fix a o h).2]; simp⟩
  own := fun a h => g.own a fun z => h (by unfold unl; rw [z]; simp)
  free := g.free
  slot := fun i s h => (g.slot i s h).keep fun o d v q => q.unl fun z => by cases z; rw [e0] at h; cases h
  tmp := fun j t h => (g.tmp j t h).unl fun z => nomatch z
theorem Good.demK : ∀ (ks : List Nat) {φ : Lab} {env : Env}, Good M N fx pin φ H env σ ts → ∃ φ', Good M N fx pin φ' H (demK ks env) σ ts ∧ (∀ a, φ a = none → φ' a = none) ∧ ∀ k ∈ ks, ∀ a, φ a = some (.slot k) → φ' a = none
  | [], φ, env, g => ⟨φ, g, fun _ h => h, fun k h => nomatch h⟩
  | k :: ks, φ, env, g => by
    have key : ∃ φ', Good M N fx pin φ' H (CB.demK (k :: ks) env) σ ts ∧ (∀ a, unl φ k a = none → φ' a = none) ∧ ∀ j ∈ ks, ∀ a, unl φ k a = some (.slot j) → φ' a = none := by
      cases e0 : env[k]? with
      | none =>
        obtain ⟨φ', g', h1, h2⟩ := Good.demK ks (g.dem0 e0)
        exact ⟨φ', by simp only [CB.demK, e0]; exact g', h1, h2⟩
      | some s0 =>
        obtain ⟨φ', g', h1, h2⟩ := Good.demK ks (g.dem1 e0)
        exact ⟨φ', by simp only [CB.demK, e0]; exact g', h1, h2⟩
    obtain ⟨φ', g', h1, h2⟩ := key
    refine ⟨φ', g', fun a ha => h1 a (by unfold unl; rw [ha]; simp), fun j hj a ha => ?_⟩
    by_cases hjk : j = k
    · subst hjk
      exact h1 a (by unfold unl; rw [ha]; simp)
    · rcases List.mem_cons.mp hj with z | z
      · exact absurd z hjk
      · exact h2 j z a (by unfold unl; rw [ha]; simp [hjk])
/-- the other slots' own lists are out of sight -/
def hid : Sl → Sl
  | .val true d => if noL d then .val true d else .emp
  | .ref d => if noL d then .ref d else .emp
  | s => s
def hide (ks : List Nat) : Nat → Env → Env
  | _, [] => []
  | i, s :: env => (if ks.contains i then s else hid s) :: hide ks (i + 1) env
theorem hide_len (ks : List Nat) : ∀ (i : Nat) (env : Env), (hide ks i env).length = env.length
  | _, [] => rfl
  | i, s :: env => by simp only [hide, List.length_cons, hide_len ks (i + 1) env]
theorem hide_get (ks : List Nat) : ∀ (n : Nat) (env : Env) (i : Nat), (hide ks n env)[i]? = (env[i]?).map fun s => if ks.contains (n + i) then s else hid s
  | _, [], i => by simp [hide]
  | n, s :: env, 0 => by simp [hide]
  | n, s :: env, i + 1 => by
    simp only [hide, List.getElem?_cons_succ, hide_get ks (n + 1) env i]
    rw [show n + 1 + i = n + (i + 1) by omega]
theorem Good.obsK (g : Good M N fx pin φ H env σ ts) (ks : List Nat) : ObsEnv (fun a => M a ∧ (φ a = none ∨ ∃ k ∈ ks, φ a = some (.slot k))) H (hide ks 0 env) σ := ⟨by have := g.len; unfold Lens at *; rw [hide_len]; exact this, fun i d h => by
  unfold Env.look at h
  rw [hide_get] at h
  cases e : env[i]? with
  | none => rw [e] at h; cases h
  | some s =>
    rw [e] at h
    have k := g.slot i s e
    have main : ∀ {o d' v}, σ[i]? = some (some v) → Held φ H M (.slot i) o d' v → (o = true → ks.contains i = true ∨ noL d' = true) → d' = d → ∃ v as, σ[i]? = some (some v) ∧ Rep H d v as ∧ ∀ a ∈ as, M a ∧ (φ a = none ∨ ∃ k ∈ ks, φ a = some (.slot k)) := by
      rintro o d' v hv ⟨as, h1, h2, h3, h4⟩ hk rfl
      refine ⟨v, as, hv, h1, fun a ha => ⟨h2 a ha, ?_⟩⟩
      cases o with
      | false => exact .inl (h3 a ha)
      | true =>
        rcases hk rfl with z | z
        · exact .inr ⟨i, by simpa using z, h3 a ha⟩
        · rw [h1.noL z] at ha; cases ha
    simp only [Option.map_some, Nat.zero_add] at h
    cases s with
    | emp => simp only [hid] at h; split at h <;> cases h
    | pin => simp only [hid] at h; split at h <;> cases h
    | val o d' =>
      obtain ⟨v, h1, h2⟩ := k
      by_cases hc : ks.contains i = true
      · rw [if_pos hc] at h; cases h
        exact main h1 h2 (fun _ => .inl hc) rfl
      · rw [if_neg hc] at h
        cases o with
        | false => cases h; exact main h1 h2 (fun z => nomatch z) rfl
        | true =>
          simp only [hid] at h
          by_cases hn : noL d' = true
          · rw [if_pos hn] at h; cases h
            exact main h1 h2 (fun _ => .inr hn) rfl
          · rw [if_neg hn] at h; cases h
    | ref d' =>
      obtain ⟨v, h1, _, h2⟩ := k
      by_cases hc : ks.contains i = true
      · rw [if_pos hc] at h; cases h
        exact main h1 h2 (fun _ => .inl hc) rfl
      · rw [if_neg hc] at h
        simp only [hid] at h
        by_cases hn : noL d' = true
        · rw [if_pos hn] at h; cases h
          exact main h1 h2 (fun _ => .inr hn) rfl
        · rw [if_neg hn] at h; cases h⟩
/-- a shared value -/
theorem Good.pushS (g : Good M N fx pin φ H env σ ts) (e : Ex H H') {d : D} {v : V} {as : List Addr} (r : Rep H' d v as) (m : ∀ a ∈ as, M a ∨ H a = none) (ha : ∀ a ∈ as, φ a = none) : Good M N fx pin φ H' env σ (ts ++ [(false, d, v)]) := by
  have g' := g.ext e
  refine ⟨g'.len, g'.fix, g'.own, g'.free, g'.slot, fun j t h => ?_⟩
  by_cases hj : j < ts.length
  · rw [List.getElem?_append_left hj] at h
    exact g'.tmp j t h
  · have hj' : j = ts.length := by
      have := (List.getElem?_eq_some_iff.mp h).1
      simp at this; omega
    subst hj'
    simp at h
    subst h
    exact ⟨as, r, fun a q => (m a q).elim id fun z => (g.fresh z).2, fun a q => ha a q, fun z => nomatch z⟩
theorem Good.drop1 {t : Tmp} (g : Good M N fx pin φ H env σ (ts ++ [t])) : Good M N fx pin φ H env σ ts :=
  ⟨g.len, g.fix, g.own, g.free, g.slot, fun j u h => g.tmp j u (by rw [List.getElem?_append_left (List.getElem?_eq_some_iff.mp h).1]; exact h)⟩
end

/-! ### expressions and statements that may change things -/
inductive GR where
  | ok (o : Bool) (d : D) (env : Env) | ex (x : Xn) (env : Env) | no
abbrev GE := Env → GR
def lift (ks : List Nat) (p : P) : GE := fun env => match p env with
  | .ok f d => if gfl f d then .ok true d env else match p (hide ks 0 env) with
    | .ok _ d2 => .ok false d2 (demK ks env)
    | _ => .no
  | .ex x => .ex x env
  | .no => .no
inductive SR where
  | nx (env : Env) | rt (o : Bool) (d : D) (env : Env) | ex (x : Xn) (env : Env) | no
abbrev SM := Env → SR
section
variable (M N : Addr → Prop) (fx : Addr → HO → Prop) (pin : Nat → Option V) (mg : Str → Option Value) (σ : L2.St) (ts : List Tmp) (E : XK)
def GWant (Q : VK) : GR → Prop
  | .ok o d env => ∀ φ H v, Good M N fx pin φ H env σ (ts ++ [(o, d, v)]) → Q v H
  | .ex x env => ∀ φ H c dx, Good M N fx pin φ H env σ ts → XR mg x c dx H → E c dx H
  | .no => False
def SWant (K : Ends) : SR → Prop
  | .nx env => ∀ φ H σ', Good M N fx pin φ H env σ' ts → K.nx σ' H
  | .rt o d env => ∀ φ H σ' v, Good M N fx pin φ H env σ' (ts ++ [(o, d, v)]) → K.rt v H
  | .ex x env => ∀ φ H σ' c dx, Good M N fx pin φ H env σ' ts → XR mg x c dx H → E c dx H
  | .no => False
end
def SndE (X : Cx) (E : XK) (e : Expr) (m : GE) : Prop := ∃ t, PE X e t ∧ ∀ M N fx pin φ H env σ ts Q, Good M N fx pin φ H env σ ts → GWant M N fx pin X.mg σ ts E Q (m env) → t σ H Q
def SndS (X : Cx) (E : XK) (st : Stmt) (m : SM) : Prop := ∃ t, PS X st t ∧ ∀ M N fx pin φ H env σ ts K, Good M N fx pin φ H env σ ts → SWant M N fx pin X.mg ts E K (m env) → t K σ H
def SndB (X : Cx) (E : XK) (sts : List Stmt) (m : SM) : Prop := ∃ t, PSs X sts t ∧ ∀ M N fx pin φ H env σ ts K, Good M N fx pin φ H env σ ts → SWant M N fx pin X.mg ts E K (m env) → t K σ H
section
variable {X : Cx} {E : XK}
/-- from a reading of a pure thing -/
theorem lift_read {t : TE} {p : P} (ks : List Nat) (h : ∀ (S : Addr → Prop) env σ H Q, ObsEnv S H env σ → PWant S X.mg H Q E (p env) → t σ H Q) :
    ∀ M N fx pin φ H env σ ts Q, Good M N fx pin φ H env σ ts → GWant M N fx pin X.mg σ ts E Q (lift ks p env) → t σ H Q := by
  intro M N fx pin φ H env σ ts Q g w
  unfold lift at w
  cases hp : p env with
  | no => rw [hp] at w; exact w.elim
  | ex x =>
    refine h M env σ H Q g.obs ?_
    rw [hp] at w ⊢; exact fun c dx H' e r => w φ H' c dx (g.ext e) r
  | ok f d =>
    rw [hp] at w
    simp only at w
    split at w
    · rename_i hg
      refine h M env σ H Q g.obs ?_
      rw [hp]
      intro v H' as e r m n
      exact w _ H' v (g.push e r (gfl_new hg r n))
    · cases hp2 : p (hide ks 0 env) with
      | no => rw [hp2] at w; exact w.elim
      | ex x => rw [hp2] at w; exact w.elim
      | ok f2 d2 =>
        rw [hp2] at w
        simp only at w
        refine h _ _ σ H Q (g.obsK ks) ?_
        rw [hp2]
        intro v H' as e r m n
        obtain ⟨φ', g', k1, k2⟩ := g.demK ks
        refine w φ' H' v (g'.pushS e r (fun a ha => (m a ha).imp (fun z => z.1) id) fun a ha => ?_)
        rcases m a ha with ⟨_, z | ⟨k, hk, z⟩⟩ | z
        · exact k1 a z
        · exact k2 k hk a z
        · exact k1 a (g.lab_none z)
theorem snde_pure {e : Expr} {p : P} (ks : List Nat) (h : SndP X E e p) : SndE X E e (lift ks p) := by
  obtain ⟨t, h1, h2⟩ := h
  exact ⟨t, h1, lift_read ks h2⟩
/-- a name's own value is taken out of it -/
def mv (i : Nat) : GE := fun env => match env[i]? with
  | some (.val o d) => .ok o d (env.set i .emp)
  | _ => .no

/-! statements -/
def retS (m : GE) : SM := fun env => match m env with
  | .ok o d env' => .rt o d env'
  | .ex x env' => .ex x env'
  | .no => .no
theorem snds_ret {e : Expr} {m : GE} {pos : Pos} (h : SndE X E e m) : SndS X E (.Return (some e) pos) (retS m) := by
  obtain ⟨t, h1, h2⟩ := h
  refine ⟨_, ps_ret h1, fun M N fx pin φ H env σ ts K g w => h2 M N fx pin φ H env σ ts _ g ?_⟩
  unfold retS at w
  cases hm : m env with
  | no => rw [hm] at w; exact w
  | ex x env' => rw [hm] at w; exact fun φ' H' c dx g' r => w φ' H' σ c dx g' r
  | ok o d env' => rw [hm] at w; exact fun φ' H' v g' => w φ' H' σ v g'
def dropS (m : GE) : SM := fun env => match m env with
  | .ok _ _ env' => .nx env'
  | .ex x env' => .ex x env'
  | .no => .no
theorem snds_expr {e : Expr} {m : GE} {pos : Pos} (h : SndE X E e m) (hs : swapsWith e none pos.line X.env = pure false := by rfl) : SndS X E (.Expr e pos) (dropS m) := by
  obtain ⟨t, h1, h2⟩ := h
  refine ⟨_, ps_expr h1 hs, fun M N fx pin φ H env σ ts K g w => h2 M N fx pin φ H env σ ts _ g ?_⟩
  unfold dropS at w
  cases hm : m env with
  | no => rw [hm] at w; exact w
  | ex x env' => rw [hm] at w; exact fun φ' H' c dx g' r => w φ' H' σ c dx g' r
  | ok o d env' => rw [hm] at w; exact fun φ' H' v g' => w φ' H' σ g'.drop1
/-- a temporary goes into a slot -/
def toSlot (φ : Lab) (j i : Nat) : Lab := fun a => if φ a = some (.tmp j) then some (.slot i) else if φ a = some (.slot i) then none else φ a
theorem Good.store {M N : Addr → Prop} {fx : Addr → HO → Prop} {pin : Nat → Option V} {φ : Lab} {H : Hp} {env : Env} {σ : L2.St} {ts : List Tmp} {o : Bool} {d : D} {v : V} {i : Nat} (g : Good M N fx pin φ H env σ (ts ++ [(o, d, v)])) :
    Good M N fx pin (toSlot φ ts.length i) H (env.set i (.val o d)) (σ.set i (some v)) ts := by
  have hlast : Held φ H M (.tmp ts.length) o d v := g.tmp ts.length (o, d, v) (by simp)
  have oth : ∀ {l : Lb} {o : Bool} {d : D} {v : V}, l ≠ .tmp ts.length → l ≠ .slot i → Held φ H M l o d v → Held (toSlot φ ts.length i) H M l o d v := fun {l o d v} h1 h2 k => k.keep fun as r q => ⟨r, fun a ha => by
    unfold toSlot
    rw [q a ha]
    cases o with
    | true => simp [h1, h2]
    | false => simp⟩
  refine ⟨g.len.set, fun a u h => ⟨(g.fix a u h).1, ?_⟩, fun a h => ?_, g.free, fun k s h => ?_, fun j t h => ?_⟩
  · unfold toSlot
    rw [(g.fix a u h).2]; simp
  · refine g.own a fun z => h ?_
    unfold toSlot
    rw [z]; simp
  · by_cases hk : k = i
    · subst hk
      have hlen : k < env.length := by
        have := (List.getElem?_eq_some_iff.mp h).1
        rwa [List.length_set] at this
      rw [List.getElem?_set_self hlen] at h
      cases h
      refine ⟨v, by rw [List.getElem?_set_self (Nat.lt_of_lt_of_le hlen g.len)], hlast.keep fun as r q => ⟨r, fun a ha => ?_⟩⟩
      unfold toSlot
      rw [q a ha]
      cases o with
      | true => simp
      | false => simp
    · rw [List.getElem?_set_ne (Ne.symm hk)] at h
      rw [List.getElem?_set_ne (Ne.symm hk)]
      exact (g.slot k s h).keep fun o d v q => oth (fun z => nomatch z) (fun z => hk (by cases z; rfl)) q
  · have hj : j < ts.length := (List.getElem?_eq_some_iff.mp h).1
    exact oth (fun z => by cases z; exact absurd hj (Nat.lt_irrefl _)) (fun z => nomatch z) (g.tmp j t (by rw [List.getElem?_append_left hj]; exact h))
def asgS (i : Nat) (m : GE) : SM := fun env => match m env with
  | .ok o d env' => .nx (env'.set i (.val o d))
  | .ex x env' => .ex x env'
  | .no => .no
theorem asg_read {t : TE} {m : GE} (i : Nat) (h : ∀ M N fx pin φ H env σ ts Q, Good M N fx pin φ H env σ ts → GWant M N fx pin X.mg σ ts E Q (m env) → t σ H Q) :
    ∀ M N fx pin φ H env σ ts K, Good M N fx pin φ H env σ ts → SWant M N fx pin X.mg ts E K (asgS i m env) → tAsg t (gName i) K σ H := by
  intro M N fx pin φ H env σ ts K g w
  refine h M N fx pin φ H env σ ts _ g ?_
  unfold asgS at w
  cases hm : m env with
  | no => rw [hm] at w; exact w
  | ex x env' => rw [hm] at w; exact fun φ' H' c dx g' r => w φ' H' σ c dx g' r
  | ok o d env' =>
    rw [hm] at w
    intro φ' H' v g'
    exact w _ H' _ g'.store
theorem snds_set {i : Nat} {x : Str} {e : Expr} {m : GE} {pos pos' : Pos} (h : SndE X E e m) (hN : X.N.Nodup) (hi : X.N[i]? = some x) (hx : Loc X.env.scope x) (hs : swapsWith e (some (.Name x pos')) pos.line X.env = pure false := by rfl) (hf : X.fn x = true ∨ X.env.scope.names.lookup x = some .local := by first | exact .inl rfl | exact .inr rfl | assumption) :
    SndS X E (.Assign [.Name x pos'] e pos) (asgS i m) := by
  obtain ⟨t, h1, h2⟩ := h
  exact ⟨_, ps_set hN hi hx h1 hs hf, asg_read i h2⟩
/-- name = [..] on one line -/
theorem snds_setC (ks : List Nat) {i : Nat} {y : Str} {py : Pos} {elt tg iter : Expr} {ifs : List Expr} {scope : Scope} {own : List (Str × Nat)} {pos spos : Pos} {ι : I} {τ : Tgt} {t el : P} (hc : X.calm = true) (hN : X.N.Nodup) (hy : X.N[i]? = some y) (hyl : X.env.scope.names.lookup y = some .local)
    (hsw : swapsWith (.ListComp elt [⟨tg, iter, ifs, 0⟩] scope pos) (some (.Name y py)) spos.line X.env = pure true) (hi : SndI X E tg iter ι) (ok : BlkOk X.N X.env.scope scope own)
    (hg : Blk X scope fun Y => SndG Y tg τ) (ht : Blk X scope fun Y => SndTs Y ifs t) (he : Blk X scope fun Y => SndP Y E0 elt el) (hτ : ∀ i ∈ slotsOf τ, i ∈ own.map (·.2) := by decide) (hs : ∀ x, foldedSetIterable iter X.env x = pure x := by intro _; rfl) :
    SndS X E (.Assign [.Name y py] (.ListComp elt [⟨tg, iter, ifs, 0⟩] scope pos) spos) (asgS i (lift ks (comp (own.map (·.2)) τ ι t el))) := by
  obtain ⟨wi, h1, h2⟩ := comp_read (t := t) (el := el) hi hτ
  exact ⟨_, ps_setLc hc hN hy hyl hsw h1 ok (fun s H C cl fp => (hg s H C cl fp).c) (fun s H C cl fp => (ht s H C cl fp).c) (fun s H C cl fp => (he s H C cl fp).c) hs, asg_read i (lift_read ks h2)⟩
/-- code that is not reached -/
def noS : SM := fun _ => .no
theorem snds_no {st : Stmt} : SndS X E st noS := ⟨_, ps_never, fun _ _ _ _ _ _ _ _ _ _ _ w => w⟩
def passS : SM := fun env => .nx env
theorem snds_pass {pos : Pos} : SndS X E (.Pass pos) passS := ⟨_, ps_pass, fun _ _ _ _ φ H env σ _ _ g w => w φ H σ g⟩
/-! blocks -/
def seqS (m n : SM) : SM := fun env => match m env with
  | .nx env' => n env'
  | .rt o d env' => .rt o d env'
  | .ex x env' => .ex x env'
  | .no => .no
theorem sndb_one {st : Stmt} {m : SM} (h : SndS X E st m) : SndB X E [st] m := let ⟨t, a, b⟩ := h; ⟨t, pss_one a, b⟩
theorem sndb_nil : SndB X E [] passS := ⟨_, pss_nil, fun _ _ _ _ φ H env σ _ _ g w => w φ H σ g⟩
theorem sndb_cons {st : Stmt} {sts : List Stmt} {m n : SM} (h : SndS X E st m) (hs : SndB X E sts n) : SndB X E (st :: sts) (seqS m n) := by
  obtain ⟨t, h1, h2⟩ := h
  obtain ⟨u, g1, g2⟩ := hs
  refine ⟨_, pss_cons h1 g1, fun M N fx pin φ H env σ ts K g w => h2 M N fx pin φ H env σ ts _ g ?_⟩
  unfold seqS at w
  cases hm : m env with
  | no => rw [hm] at w; exact w
  | ex x env' => rw [hm] at w; exact w
  | rt o d env' => rw [hm] at w; exact w
  | nx env' => rw [hm] at w; exact fun φ' H' σ' g' => g2 M N fx pin φ' H' env' σ' ts K g' w
/-! if: the test changes nothing -/
def ifS (p : P) (m n : SM) : SM := fun env => match p env with
  | .ok _ (.bl true) => m env
  | .ok _ (.bl false) => n env
  | .ok _ _ => .no
  | .ex x => .ex x env
  | .no => .no
theorem snds_if {c : Expr} {a b : List Stmt} {p : P} {m n : SM} {pos : Pos} (hc : SndT X E c p) (ha : SndB X E a m) (hb : SndB X E b n) : SndS X E (.If c a b pos) (ifS p m n) := by
  obtain ⟨t, c1, c2⟩ := hc
  obtain ⟨u, a1, a2⟩ := ha
  obtain ⟨z, b1, b2⟩ := hb
  refine ⟨_, ps_if c1 a1 b1, fun M N fx pin φ H env σ ts K g w => c2 M env σ H _ g.obs ?_⟩
  unfold ifS at w
  cases hp : p env with
  | no => rw [hp] at w; exact w
  | ex x => rw [hp] at w; exact fun c dx H' e r => w φ H' σ c dx (g.ext e) r
  | ok f d =>
    rw [hp] at w
    cases d with
    | bl b =>
      intro H1 e
      cases b with
      | true => exact iteT (a2 M N fx pin φ H1 env σ ts K (g.ext e) w)
      | false => exact iteF (b2 M N fx pin φ H1 env σ ts K (g.ext e) w)
    | _ => exact (show False from w).elim

/-! ### a def -/
def startE (n : Nat) (ds : List D) : Env := ds.map (.val false) ++ List.replicate (n - ds.length) .emp
def fnP (n : Nat) (m : SM) (ds : List D) : PR := match m (startE n ds) with
  | .nx _ => .ok true .non
  | .rt o d _ => .ok o d
  | .ex x _ => .ex x
  | .no => .no
theorem start_slot {H : Hp} : ∀ {ds : List D} {vs : List V} {as : List Addr}, Reps H ds vs as → ∀ (i : Nat) (d : D), ds[i]? = some d → ∃ v bs, vs[i]? = some v ∧ Rep H d v bs ∧ ∀ a ∈ bs, a ∈ as := fun r i d h => by
  obtain ⟨v, bs, cs, es, h1, h2, h3⟩ := r.get h
  exact ⟨v, bs, h1, h2, fun a m => mem_sub h3 m⟩
theorem Good.start {H : Hp} {ds : List D} {vs : List V} {as : List Addr} {n : Nat} {NN : List Str} (r : Reps H ds vs as) (hn : NN.length = n) (hk : ds.length ≤ n) :
    Good (fun a => a ∈ as ∨ H a = none) (fun a => H a = none) (fun a o => H a = some o) (fun _ => none) (fun _ => none) H (startE n ds) (L2.start NN vs) [] where
  len := by
    unfold Lens startE L2.start
    rw [List.length_append, List.length_map, List.length_replicate, List.length_append, List.length_map, List.length_replicate, hn, r.length]
    omega
  fix := fun a o h => ⟨h, rfl⟩
  own := fun a h => absurd rfl h
  free := fun p h => by
    have : H p = none := by
      cases e : H p with
      | none => rfl
      | some o => exact absurd e (h o)
    exact ⟨this, .inr this⟩
  slot := fun i s h => by
    unfold startE at h
    by_cases hi : i < ds.length
    · rw [List.getElem?_append_left (by simpa using hi), List.getElem?_map] at h
      have e : ds[i]? = some ds[i] := by simp
      rw [e] at h
      cases h
      obtain ⟨v, bs, h1, h2, h3⟩ := start_slot r i _ e
      refine ⟨v, ?_, bs, h2, fun a m => .inl (h3 a m), fun _ _ => rfl, fun z => nomatch z⟩
      unfold L2.start
      have hv : i < vs.length := (List.getElem?_eq_some_iff.mp h1).1
      rw [List.getElem?_append_left (by simpa using hv), List.getElem?_map, h1]; rfl
    · rw [List.getElem?_append_right (by simpa using hi)] at h
      rw [List.getElem?_replicate] at h
      split at h <;> cases h
      trivial
  tmp := fun j t h => by simp at h
/-- THE RULE for a def: its body's judgement, for any wish about exceptions -/
theorem fn_ok {P' : Program} {w : World} {K : PySem.W.Frag} {mg : Str → Option Value} {base : Heap} {x qual : Str} {st : Stmt} {f : Addr} {fd : FuncData} {NN ps : List Str} {k n : Nat} {m : SM} (F : Fun K x qual st f fd) (S : FnScope NN ps (defScope st)) (hn : NN.length = n) (hk : ps.length ≤ n)
    (hb : ∀ (cdv : Value) (A : Around) (outer : List PySem.Env) (s : Shared) (H : Hp) (E : XK), RoomG k (A.deeper (envOfC qual (defScope st) s.heap.objs.size f cdv)) → SndB (cxOf (L2.CX P' w) P' w K mg base NN qual (defScope st) f cdv A outer s H E) E (defBody st) m) :
    FnOkG P' w K mg base (L2.CX P' w) (k + 1) f fd ps (spF ps.length mg (fnP n m)) := by
  refine okXG F S (fun vs H Q E h => h.1) (fun cdv A outer s H vs Q E hr h => ?_)
  obtain ⟨hl, ds, as, r, w⟩ := h
  obtain ⟨t, h1, h2⟩ := hb cdv A outer s H E hr
  refine ⟨t, h1, h2 _ _ _ _ _ H _ _ [] _ (Good.start (NN := NN) r hn (by rw [r.length, hl]; exact hk)) ?_⟩
  unfold fnP at w
  cases hm : m (startE n ds) with
  | no => rw [hm] at w; exact w
  | ex x env' => rw [hm] at w; exact fun φ' H' σ' c dx g' r' => w c dx H' (fun a o h => (g'.fix a o h).1) r'
  | nx env' => rw [hm] at w; exact fun φ' H' σ' g' => w .non H' [] (fun a o h => (g'.fix a o h).1) .non noMem fun _ => .nil H
  | rt o d env' =>
    rw [hm] at w
    intro φ' H' σ' v g'
    obtain ⟨bs, r1, r2, r3, r4⟩ := g'.tmp 0 (o, d, v) (by simp)
    refine w v H' bs (fun a o h => (g'.fix a o h).1) r1 r2 fun z => ⟨r4 z, fun a ha => ?_⟩
    have z' : o = true := z
    have := r3 a ha
    rw [z'] at this
    exact (g'.own a (by rw [this]; exact fun q => nomatch q)).1
end
end CB

namespace CB
open PySem L2 PySem.Spec PyProof.Rows
variable [CT]

/-! ### sorted -/
def isIns {α : Type} (le : α → α → Bool) (a : α) : List α → List α
  | [] => [a]
  | b :: r => if le a b then a :: b :: r else b :: isIns le a r
def isort {α : Type} (le : α → α → Bool) : List α → List α
  | [] => []
  | a :: r => isIns le a (isort le r)
section
variable {α : Type} {le : α → α → Bool}
theorem isIns_perm (a : α) : ∀ l : List α, (isIns le a l).Perm (a :: l)
  | [] => List.Perm.refl _
  | b :: r => by
    unfold isIns
    split
    · exact List.Perm.refl _
    · exact (List.Perm.cons b (isIns_perm a r)).trans (List.Perm.swap a b r)
theorem isort_perm : ∀ l : List α, (isort le l).Perm l
  | [] => List.Perm.refl _
  | a :: r => (isIns_perm a _).trans (List.Perm.cons a (isort_perm r))
theorem isIns_pw (h : PySem.W.TotalLe le) (a : α) : ∀ {l : List α}, l.Pairwise (fun x y => le x y = true) → (isIns le a l).Pairwise (fun x y => le x y = true)
  | [], _ => by simp [isIns]
  | b :: r, hp => by
    unfold isIns
    obtain ⟨h1, h2⟩ := List.pairwise_cons.mp hp
    split
    · rename_i hab
      refine List.pairwise_cons.mpr ⟨fun c hc => ?_, hp⟩
      rcases List.mem_cons.mp hc with e | hc
      · rw [e]; exact hab
      · exact h.trans _ _ _ hab (h1 c hc)
    · rename_i hab
      refine List.pairwise_cons.mpr ⟨fun c hc => ?_, isIns_pw h a h2⟩
      rcases List.mem_cons.mp ((isIns_perm a r).mem_iff.mp hc) with e | hc
      · rw [e]; exact (h.total a b).resolve_left hab
      · exact h1 c hc
theorem isort_pw (h : PySem.W.TotalLe le) : ∀ l : List α, (isort le l).Pairwise (fun x y => le x y = true)
  | [] => .nil
  | a :: r => isIns_pw h a (isort_pw h r)
theorem isIns_filter (h : PySem.W.TotalLe le) (c a : α) : ∀ l : List α, (isIns le a l).filter (PySem.W.sameRank le c) = (a :: l).filter (PySem.W.sameRank le c)
  | [] => rfl
  | b :: r => by
    unfold isIns
    split
    · rfl
    · rename_i hab
      have ih := isIns_filter h c a r
      rw [List.filter_cons, ih, List.filter_cons, List.filter_cons, List.filter_cons]
      by_cases h1 : PySem.W.sameRank le c a = true
      · by_cases h2 : PySem.W.sameRank le c b = true
        · exfalso
          unfold PySem.W.sameRank at h1 h2
          rw [Bool.and_eq_true] at h1 h2
          exact hab (h.trans _ _ _ h1.2 h2.1)
        · rw [if_neg h2, if_neg h2]
      · rw [if_neg h1, if_neg h1]
theorem isort_filter (h : PySem.W.TotalLe le) (c : α) : ∀ l : List α, (isort le l).filter (PySem.W.sameRank le c) = l.filter (PySem.W.sameRank le c)
  | [] => rfl
  | a :: r => by
    unfold isort
    rw [isIns_filter h, List.filter_cons, List.filter_cons, isort_filter h c r]
theorem isort_eq (h : PySem.W.TotalLe le) (l : List α) : l.mergeSort le = isort le l := (PySem.W.sort_unique h (isort_pw h l) fun c => isort_filter h c l).symm
end
def leI (i j : Int) : Bool := decide (i ≤ j)
theorem leI_total : PySem.W.TotalLe leI where
  total := fun a b => by unfold leI; simp only [decide_eq_true_eq]; omega
  trans := fun a b c => by unfold leI; simp only [decide_eq_true_eq]; omega
theorem sorted_ints_eq {ns ms : List Int} (hp : ms.Perm ns) (hs : ms.Pairwise (· ≤ ·)) : ms = isort leI ns := by
  have h1 : (isort leI ns).Pairwise (· ≤ ·) := (isort_pw leI_total ns).imp fun h => of_decide_eq_true h
  exact List.Perm.eq_of_pairwise (fun a b _ _ h1 h2 => Int.le_antisymm h1 h2) hs h1 (hp.trans (isort_perm ns).symm)

section
variable {X : Cx} {E : XK}
/-- a tuple's items gathered -/
theorem collect_tup {prog : Program} {w : World} {A : Around} {E : Value → Shared → Prop} {s : Shared} {l : Addr} {vs : List Value} {Q : List Value → Shared → Prop} (hl : s.heap.IsTuple l vs.toArray)
    (h : Q vs { s with heap := (s.heap.push (seqObj "list" #[] 0)).update s.heap.objs.size (Obj.mapSeq (· ++ vs.toArray)) }) (hsz : vs.length ≤ sizeLine) : wpAny (model prog w) A (collect (.ref l)) Q E s := by
  obtain ⟨o, ho, hc, n, hd⟩ := id hl
  unfold collect
  refine wpAny_bind (wpAny_runValue (codeAny_builtin entry_proto_collect' ?_))
  show wpAny _ _ (do again (.builtin "list.__iadd__" ⟨[← newList [], .ref l], []⟩)) _ _ s
  refine wpAny_bind (wpAny_newList (wpAny_pure ⟨Code.quiet_builtin _ (by decide +kernel), codeAny_builtin entry_list_iadd' ?_⟩))
  show wpAny _ _ (Builtin.List.listExtendWith (.ref s.heap.objs.size) (.ref l) (.ref s.heap.objs.size)) _ _ { s with heap := s.heap.push (seqObj "list" #[] 0) }
  unfold Builtin.List.listExtendWith
  have ho' : (s.heap.push (seqObj "list" #[] 0)).get? l = some o := Heap.get?_push_of_some _ ho
  refine wpAny_bind (wpAny_typeOf (T := "tuple") ⟨o, ho', hc⟩ ?_)
  have ht : (Value.type "tuple" == Value.type "tuple") = true := by rfl
  rw [if_pos (by rw [ht]; simp)]
  refine wpAny_bind (listItems_at ho' hd ?_)
  refine wpAny_bind (listItems_at (xs := #[]) (n := 0) (Heap.get?_push_size _ rfl) rfl ?_)
  rw [if_neg (by simp)]
  refine wpAny_bind (listUpdate_at (xs := #[]) (n := 0) (Heap.get?_push_size _ rfl) rfl ?_ (Nat.zero_le _) (by show (#[] ++ vs.toArray).size ≤ sizeLine + 1; simp only [Array.size_append, List.size_toArray, List.length_nil]; omega))
  refine wpAny_pure ?_
  show wpAny (model prog w) A (do
      let o ← load s.heap.objs.size
      match o.data with
      | .seq xs _ => pure xs.toList
      | _ => unsupported "internal:collect") Q E { s with heap := (s.heap.push (seqObj "list" #[] 0)).update s.heap.objs.size (Obj.mapSeq (· ++ vs.toArray)) }
  refine wpAny_bind (wpAny_load (get?_update_seq (Heap.get?_push_size _ rfl) _) ?_)
  show wpAny _ _ (pure ((#[] : Array Value) ++ vs.toArray).toList) Q E _
  rw [show ((#[] : Array Value) ++ vs.toArray).toList = vs by simp]
  exact wpAny_pure h
end
end CB

namespace CB
open PySem L2 PySem.Spec PyProof.Rows
variable [CT]

/-! ### rows of values with their nodes -/
abbrev Row := List (D × V × List Addr)
def Row.ds (b : Row) : List D := b.map (·.1)
def Row.vs (b : Row) : List V := b.map (·.2.1)
def Row.as (b : Row) : List Addr := (b.map (·.2.2)).flatten
theorem Reps.row {H : Hp} : ∀ {ds : List D} {vs : List V} {as : List Addr}, Reps H ds vs as → ∃ b : Row, b.ds = ds ∧ b.vs = vs ∧ b.as = as ∧ ∀ x ∈ b, Rep H x.1 x.2.1 x.2.2
  | _, _, _, .nil => ⟨[], rfl, rfl, rfl, fun _ h => nomatch h⟩
  | _, _, _, .cons (d := d) (v := v) (as := as) r rs => by
    obtain ⟨b, h1, h2, h3, h4⟩ := Reps.row rs
    refine ⟨(d, v, as) :: b, ?_, ?_, ?_, fun x h => ?_⟩
    · simp only [Row.ds] at h1 ⊢; rw [List.map_cons, h1]
    · simp only [Row.vs] at h2 ⊢; rw [List.map_cons, h2]
    · simp only [Row.as] at h3 ⊢; rw [List.map_cons, List.flatten_cons, h3]
    · rcases List.mem_cons.mp h with e | h
      · subst e; exact r
      · exact h4 x h
theorem reps_row {H : Hp} : ∀ (b : Row), (∀ x ∈ b, Rep H x.1 x.2.1 x.2.2) → Reps H b.ds b.vs b.as
  | [], _ => .nil
  | x :: b, h => by
    have := Reps.cons (h x List.mem_cons_self) (reps_row b fun y hy => h y (List.mem_cons_of_mem _ hy))
    exact this
theorem Row.as_perm {b c : Row} (h : b.Perm c) : b.as.Perm c.as := (h.map _).flatten
def leD (rev : Bool) (x y : D) : Bool := PySem.W.dataLe rev dat x y
theorem leD_total (rev : Bool) : PySem.W.TotalLe (leD rev) := PySem.W.sortLe_total _ rev _
def alikeB (ds : List PyData) : Bool := ds.all fun d => ds.all fun d' => PySem.W.alike d d'
def sortB (ds : List PyData) : Bool := (ds.all fun d => match d with | .tuple (_ :: _) => true | _ => false) || (ds.all fun d => match d with | .none => false | .tuple _ => false | _ => true)
def depB (ds : List PyData) : Bool := ds.all fun d => decide (d.depth ≤ 60) && d.canLay0
theorem alikeB_ok {ds : List PyData} (h : alikeB ds = true) : PySem.W.AllAlike ds := fun d hd d' hd' => List.all_eq_true.mp (List.all_eq_true.mp h d hd) d' hd'
theorem sortB_ok {ds : List PyData} (h : sortB ds = true) : PySem.W.Sortable ds := by
  unfold sortB at h
  rw [Bool.or_eq_true] at h
  rcases h with h | h
  · refine .inl fun d hd => ?_
    have := List.all_eq_true.mp h d hd
    split at this
    · exact ⟨_, _, rfl⟩
    · cases this
  · refine .inr fun d hd => ?_
    have := List.all_eq_true.mp h d hd
    split at this
    · cases this
    · cases this
    · rename_i h1 h2
      exact ⟨fun e => h1 e, fun xs e => h2 xs e⟩
/-- the rule: a list or a tuple of data, sorted into a new list -/
def rSortG (K : PySem.W.Frag) (rev : Bool) : List V → Hp → VK → Prop := fun ws H Q => ∃ (a : Addr) (b : Row), ws = [.ref a] ∧ (SqL K H a b.vs ∨ SqT K H a b.vs) ∧ (∀ x ∈ b, Rep H x.1 x.2.1 x.2.2) ∧ PySem.W.AllAlike (b.map fun x => dat x.1) ∧ PySem.W.Sortable (b.map fun x => dat x.1) ∧ (∀ x ∈ b, (dat x.1).depth ≤ 60 ∧ (dat x.1).canLay0 = true) ∧ b.length ≤ sizeLine ∧
  ∀ p, H p = none → Q (.ref p) (upd H p (.lst (Row.vs (b.mergeSort (PySem.W.dataLe rev fun x => dat x.1)))))
section
variable {X : Cx} {E : XK}
theorem eachIs_vals : ∀ {b : Row} {us : List Value}, Vals b.vs us → PySem.W.EachIs (fun u (x : D × V × List Addr) => RelV x.2.1 u) us b
  | [], _, .nil => .nil
  | x :: b, _, .cons r rs => .cons r (eachIs_vals rs)
theorem vals_eachIs : ∀ {b : Row} {us : List Value}, PySem.W.EachIs (fun u (x : D × V × List Addr) => RelV x.2.1 u) us b → Vals b.vs us
  | _, _, .nil => .nil
  | _, _, .cons r rs => .cons r (vals_eachIs rs)
theorem eachIs_reads {pins : List (Addr × Obj)} {σ : L2.St} {H : Hp} {s : Shared} (I : L2.Inv X pins σ H s) : ∀ {b : Row} {us : List Value}, (∀ x ∈ b, Rep H x.1 x.2.1 x.2.2 ∧ (dat x.1).canLay0 = true) → Vals b.vs us → PySem.W.EachIs (fun u (x : D × V × List Addr) => ∃ as, Reads s.heap u (dat x.1) as) us b
  | [], _, _, .nil => .nil
  | x :: b, _, h, .cons r rs => .cons (Dp.reads I _ _ _ ((h x List.mem_cons_self).1.dp (h x List.mem_cons_self).2) r) (eachIs_reads I (fun y hy => h y (List.mem_cons_of_mem _ hy)) rs)
/-- as for a list, for a tuple -/
theorem sorted_of_tup {prog : Program} {w : World} {A : Around} {E : Value → Shared → Prop} {s : Shared} {l : Addr} {vs : List Value} {kw : List (Str × Value)} {Q : Value → Shared → Prop} (hl : s.heap.IsTuple l vs.toArray) (hL : vs.length ≤ sizeLine) (ha1 : argsOk "sorted" ⟨[.ref l], kw⟩) (ha2 : ∀ x, argsOk "list.sort" ⟨[.ref x], kw⟩)
    (body : ∀ E' : Value → Shared → Prop, wpAny (model prog w) A.in1.in1 (Builtin.«list.sort» ⟨[.ref (s.heap.objs.size + 1)], kw⟩) (fun f s' => f = .done (.ret .none) ∧ Q (.ref (s.heap.objs.size + 1)) s') E' { s with heap := PySem.W.copyHeap s.heap vs }) :
    wpAny (model prog w) A (call (.builtin "sorted") [.ref l] kw) Q E s := by
  refine call_function_entry_kw kind_sorted plain_sorted entry_sorted ha1 ?_
  unfold Builtin.«sorted»
  refine wpAny_bind (m := checkCount "sorted" 1 1 _) (wpAny_pure ?_)
  refine wpAny_bind (collect_tup hl ?_ hL)
  refine wpAny_bind (wpAny_newList ?_ hL)
  have hsz : ((s.heap.push (seqObj "list" #[] 0)).update s.heap.objs.size (Obj.mapSeq (· ++ vs.toArray))).objs.size = s.heap.objs.size + 1 := by
    rw [Heap.size_update, size_push']
  show wpAny _ _ _ _ _ { s with heap := PySem.W.copyHeap s.heap vs }
  rw [hsz]
  refine wpAny_bind (wpAny_holding (wpAny_call_entry_kw slot_list_sort ⟨_, PySem.W.copyHeap_at s.heap vs, rfl⟩ entry_list_sort ?body (ha2 _)))
  case body =>
    show wpAny (model prog w) A.in1.in1 (Builtin.«list.sort» ⟨[.ref (s.heap.objs.size + 1)], kw⟩) _ _ _
    refine wpAny_mono (body _) (fun f s' hf => ?_) fun _ _ e => e
    obtain ⟨rfl, hq⟩ := hf
    exact ⟨_, rfl, wpAny_pure ⟨_, rfl, hq⟩⟩
theorem sorted_go {rev : Bool} {kw : List (Str × Value)} (hkw : (kw = [] ∧ rev = false) ∨ kw = [(Str.ofString "reverse", .bool rev)]) (hu : X.A.units + 64 < cLine) {pins : List (Addr × Obj)} {s : Shared} {σ : L2.St} {H : Hp} {ws : List V} {us : List Value} {Q : VK} (I : L2.Inv X pins σ H s) (r : Vals ws us) (h : rSortG X.K rev ws H Q) :
    wpAny (model X.prog X.w) X.A (call (.builtin "sorted") us kw) (EP X pins σ Q) X.xe s := by
  obtain ⟨a, b, rfl, hs, hr, hal, hso, hd, hL, q⟩ := h
  rw [Vals.ref1 r]
  obtain ⟨its, rv, hseq, hz⟩ : ∃ its, Vals b.vs its ∧ (s.heap.IsList a its.toArray ∨ s.heap.IsTuple a its.toArray) ∧ b.vs.length ≤ sizeLine := by
    rcases hs with hs | hs
    · obtain ⟨its, rv, hl, hz⟩ := I.list hs
      exact ⟨its, rv, .inl hl.isList, hz⟩
    · obtain ⟨its, rv, hl, hz⟩ := I.tuple hs
      exact ⟨its, rv, .inr hl, hz⟩
  have e := eachIs_vals rv
  have er := eachIs_reads I (fun x hx => ⟨hr x hx, (hd x hx).2⟩) rv
  have er' : PySem.W.EachIs (fun v (x : D × V × List Addr) => ∃ as, Reads (PySem.W.sortingHeap (PySem.W.copyHeap s.heap its) (s.heap.objs.size + 1) its) v (dat x.1) as) its b := er.mono fun _ _ ⟨as, z⟩ => ⟨as, PyProof.Rows.Reads.keeps (fun _ _ => PySem.W.sorting_copy_old) z⟩
  have hun : ∀ d, d ∈ b.map (fun x => dat x.1) → X.A.in1.in1.units + d.depth < cLine := fun d h => by
    obtain ⟨x, hx, rfl⟩ := List.mem_map.mp h
    have := (hd x hx).1
    show X.A.units + 1 + 1 + _ < _
    omega
  have SA := PySem.W.SortsAt.data (prog := X.prog) (w := X.w) (A := X.A.in1.in1) (s := { s with heap := PySem.W.sortingHeap (PySem.W.copyHeap s.heap its) (s.heap.objs.size + 1) its }) (PySem.W.each_map (R := fun v d => ∃ as, Reads (PySem.W.sortingHeap (PySem.W.copyHeap s.heap its) (s.heap.objs.size + 1) its) v d as) (fun x : D × V × List Addr => dat x.1) er') hal hso hun
  have hLi : its.length ≤ sizeLine := by rw [e.length]; exact hL
  have fin : ∀ out, out.length = b.length → PySem.W.EachIs (fun u (x : D × V × List Addr) => RelV x.2.1 u) out (b.mergeSort (PySem.W.dataLe rev fun x => dat x.1)) → EP X pins σ Q (.ref (s.heap.objs.size + 1)) { s with heap := PyProof.Rows.sortedAll s.heap its (List.toArray out) } := fun out ho eo => by
    obtain ⟨ep, he'⟩ := PyProof.Rows.sortedAll_at s.heap its out.toArray
    have rv' := vals_eachIs eo
    refine ⟨.ref _, upd H (s.heap.objs.size + 1) (.lst (Row.vs (b.mergeSort (PySem.W.dataLe rev fun x => dat x.1)))), I.laid (t' := s.toks) (fun _ _ => PyProof.Rows.sortedAll_old) (Nat.le_succ _) ⟨?_, out, ep, rv', he'⟩, rfl, q _ (I.hok.fresh (Nat.le_succ _))⟩
    rw [rv'.length, ho]; exact hL
  have out1 := PySem.W.sortVals_data rev e er' hal
  have out2 : (PySem.W.sortVals (PySem.W.dataKind (PySem.W.sortingHeap (PySem.W.copyHeap s.heap its) (s.heap.objs.size + 1) its) (b.map fun x => dat x.1)) rev its its).length = b.length := by rw [PySem.W.sortVals_length rev rfl]; exact e.length
  rcases hkw with ⟨rfl, rfl⟩ | rfl
  · rcases hseq with hl | hl
    · exact PySem.W.sorted_vals hl SA hLi (fin _ out2 out1)
    · exact sorted_of_tup hl hLi (args_sorted1 _) (fun _ => args_list_sort _) fun _ => PySem.W.list_sort_vals (s := { s with heap := PySem.W.copyHeap s.heap its }) (PySem.W.copyHeap_at s.heap its) SA hLi ⟨rfl, fin _ out2 out1⟩
  · rcases hseq with hl | hl
    · exact PySem.W.sorted_rev_vals hl SA hLi (fin _ out2 out1)
    · exact sorted_of_tup hl hLi (args_sorted_rev _ _) (fun _ => args_list_sort_rev _ _) fun _ => PySem.W.list_sort_rev_vals (s := { s with heap := PySem.W.copyHeap s.heap its }) (PySem.W.copyHeap_at s.heap its) SA hLi ⟨rfl, fin _ out2 out1⟩
theorem cr_sortG (hu : X.A.units + 64 < cLine) : CallR X (.builtin "sorted") (rSortG X.K false) := by
  intro pins s σ H xs us Q I r h
  exact sorted_go (rev := false) (.inl ⟨rfl, rfl⟩) hu I r h
theorem cr_sortGR (hu : X.A.units + 64 < cLine) : CallRK X (.builtin "sorted") [Str.ofString "reverse"] (fun vs zs H Q => zs = [.bl true] ∧ rSortG X.K true vs H Q) := by
  intro pins s σ H xs zs us ws Q I r rz h
  obtain ⟨rfl, h⟩ := h
  obtain ⟨u, rfl, ru⟩ := vals1 rz
  cases ru
  exact sorted_go (rev := true) (.inr rfl) hu I r h
/-! by trees -/
def seqOf : D → Option (List D)
  | .lst xs => some xs
  | .frz xs => some xs
  | .tup xs => some xs
  | _ => none
def sortOk (xs : List D) : Bool := alikeB (dats xs) && sortB (dats xs) && depB (dats xs) && szOk xs.length
def dSortR (rev : Bool) : List D → Option (Kd × D)
  | [d] => match seqOf d with
    | some xs => match toInts xs with
      | some ns => if szOk xs.length then some (.new, .lst ((if rev then (isort (fun i j => leI j i) ns) else isort leI ns).map D.int)) else none
      | none => if sortOk xs then some (if noLs xs then .new else .lin, .lst (isort (leD rev) xs)) else none
    | none => none
  | _ => none
omit [CT] in
theorem noLs_ints : ∀ ns : List Int, noLs (ns.map D.int) = true
  | [] => rfl
  | _ :: ns => by simp only [List.map_cons, noLs, Bool.and_eq_true]; exact ⟨rfl, noLs_ints ns⟩
theorem dats_map : ∀ xs : List D, dats xs = xs.map dat
  | [] => rfl
  | x :: xs => by simp [dats, dats_map xs]
theorem Rep.seq {H : Hp} {d : D} {v : V} {as : List Addr} {xs : List D} {K : PySem.W.Frag} (r : Rep H d v as) (h : seqOf d = some xs) : ∃ a vs bs, v = .ref a ∧ (SqL K H a vs ∨ SqT K H a vs) ∧ Reps H xs vs bs ∧ ∃ pre, as = pre ++ bs := by
  cases r with
  | @lst a vs xs as' h1 s => cases h; exact ⟨a, vs, as', rfl, .inl (SqL.of h1), s, [a], rfl⟩
  | @frz a o vs xs h1 s => cases h; exact ⟨a, vs, [], rfl, .inl (SqL.frz h1), s, [], rfl⟩
  | @tup a o vs xs _ h1 _ s => cases h; exact ⟨a, vs, as, rfl, .inr (SqT.frz h1), s, [], rfl⟩
  | _ => cases h
theorem noLs_perm {xs ys : List D} (h : xs.Perm ys) : noLs xs = noLs ys := by
  have key : ∀ l : List D, noLs l = l.all noL := by
    intro l
    induction l with
    | nil => rfl
    | cons a l ih => simp [noLs, ih]
  rw [key, key]
  exact h.all_eq
theorem row_sort (rev : Bool) (b : Row) : Row.ds (b.mergeSort (PySem.W.dataLe rev fun x => dat x.1)) = isort (leD rev) b.ds := by
  unfold Row.ds
  rw [← isort_eq (leD_total rev)]
  exact PySem.W.sort_maps (fun x : D × V × List Addr => x.1) fun _ _ _ _ => rfl
theorem v_sortR (K : PySem.W.Frag) (rev : Bool) : VN (rSortG K rev) (dSortR rev) := by
  intro H ds vs as k d Q r hf hq
  match ds, hf with
  | [x], hf =>
    obtain ⟨v, rfl, r1⟩ := r.one
    simp only [dSortR] at hf
    cases hx : seqOf x with
    | none => rw [hx] at hf; cases hf
    | some xs =>
      rw [hx] at hf
      obtain ⟨a, vs, bs, rfl, hs, rs, pre, hpre⟩ := r1.seq (K := K) hx
      obtain ⟨b, h1, h2, h3, h4⟩ := rs.row
      have hbd : b.map (fun x => dat x.1) = dats xs := by
        rw [dats_map, ← h1]; simp [Row.ds, List.map_map, Function.comp_def]
      have hbl : b.length = xs.length := by rw [← h1]; simp [Row.ds]
      have hperm : (b.mergeSort (PySem.W.dataLe rev fun x => dat x.1)).Perm b := List.mergeSort_perm _ _
      have rep' : ∀ x ∈ b.mergeSort (PySem.W.dataLe rev fun x => dat x.1), Rep H x.1 x.2.1 x.2.2 := fun y hy => h4 y (hperm.mem_iff.mp hy)
      -- the general end
      have fin : ∀ (p : Addr) (kk : Kd), H p = none → kk = (if noLs xs then Kd.new else Kd.lin) → (∀ u H' cs, Ex H H' → Rep H' (.lst (isort (leD rev) xs)) u cs → KdOk kk H as cs → Q u H') → Q (.ref p) (upd H p (.lst (Row.vs (b.mergeSort (PySem.W.dataLe rev fun x => dat x.1))))) := by
        intro p kk hp hk hq
        have rr := reps_row _ rep'
        rw [row_sort rev b, h1] at rr
        have pa : (Row.as (b.mergeSort (PySem.W.dataLe rev fun x => dat x.1))).Perm bs := by rw [← h3]; exact Row.as_perm hperm
        refine hq _ _ (p :: Row.as (b.mergeSort (PySem.W.dataLe rev fun x => dat x.1))) (Ex.new hp) (.newL hp rr) ?_
        subst hk
        split
        · rename_i hn
          have : bs = [] := rs.noL hn
          rw [this] at pa
          rw [pa.eq_nil]
          exact .mk1 ⟨by simp, fun c hc => by simp at hc; rw [hc]; exact hp⟩
        · refine .mk2 (fun c hc => ?_) fun hn => List.nodup_cons.mpr ⟨fun m => rr.ne p m hp, pa.nodup_iff.mpr ?_⟩
          · rcases List.mem_cons.mp hc with e | hc
            · rw [e]; exact .inl hp
            · exact .inr (by rw [hpre]; exact List.mem_append_right _ (pa.mem_iff.mp hc))
          · rw [hpre] at hn
            exact (List.nodup_append.mp hn).2.1
      simp only at hf
      cases hi : toInts xs with
      | some ns =>
        rw [hi] at hf
        simp only at hf
        split at hf
        · rename_i hz
          cases hf
          have hxs := toInts_eq hi
          have hnl : noLs xs = true := by rw [hxs]; exact noLs_ints ns
          have mem_int : ∀ x ∈ b, ∃ i, x.1 = D.int i := fun y hy => by
            have : y.1 ∈ xs := by rw [← h1]; exact List.mem_map.mpr ⟨y, hy, rfl⟩
            rw [hxs] at this
            obtain ⟨i, _, e⟩ := List.mem_map.mp this
            exact ⟨i, e.symm⟩
          refine ⟨a, b, rfl, by rw [h2]; exact hs, h4, fun d hd d' hd' => ?_, .inr fun d hd => ?_, fun y hy => ?_, by rw [hbl]; exact szOk_le hz, fun p hp => fin p .new hp (by rw [hnl]; rfl) fun u H' cs e1 r' kk => hq u H' cs e1 ?_ kk⟩
          · obtain ⟨y, hy, rfl⟩ := List.mem_map.mp hd
            obtain ⟨z, hz', rfl⟩ := List.mem_map.mp hd'
            obtain ⟨i, e⟩ := mem_int y hy
            obtain ⟨j, e'⟩ := mem_int z hz'
            rw [e, e']; rfl
          · obtain ⟨y, hy, rfl⟩ := List.mem_map.mp hd
            obtain ⟨i, e⟩ := mem_int y hy
            rw [e]
            exact ⟨fun z => (nomatch z), fun xs z => (nomatch z)⟩
          · obtain ⟨i, e⟩ := mem_int y hy
            rw [e]; exact ⟨by simp [dat, PyData.depth], by simp [dat, PyData.canLay0]⟩
          · -- the sorted trees are the sorted numbers
            have key : isort (leD rev) xs = (if rev = true then isort (fun i j => leI j i) ns else isort leI ns).map D.int := by
              rw [hxs]
              have mm : ∀ (le : Int → Int → Bool), (∀ i j, leD rev (.int i) (.int j) = le i j) → ∀ l : List Int, isort (leD rev) (l.map D.int) = (isort le l).map D.int := by
                intro le hle l
                have ins : ∀ (i : Int) (l : List Int), isIns (leD rev) (.int i) (l.map D.int) = (isIns le i l).map D.int := by
                  intro i l
                  induction l with
                  | nil => rfl
                  | cons j l ih =>
                    simp only [List.map_cons, isIns, hle]
                    split
                    · rfl
                    · simp [ih]
                induction l with
                | nil => rfl
                | cons i l ih => simp only [List.map_cons, isort, ih, ins]
              cases rev with
              | false =>
                simp only [Bool.false_eq_true, if_false]
                refine mm leI (fun i j => ?_) ns
                show PySem.W.dataLe false (fun b : Int => PyData.int b) i j = _
                rw [PySem.W.dataLe_int (fun b : Int => b)]; rfl
              | true =>
                simp only [if_true]
                refine mm (fun i j => leI j i) (fun i j => ?_) ns
                show PySem.W.dataLe true (fun b : Int => PyData.int b) i j = _
                rw [PySem.W.dataGe_int (fun b : Int => b)]; rfl
            rw [← key]; exact r'
        · cases hf
      | none =>
        rw [hi] at hf
        simp only at hf
        split at hf
        · rename_i hz
          cases hf
          unfold sortOk at hz
          simp only [Bool.and_eq_true] at hz
          obtain ⟨⟨⟨z1, z2⟩, z3⟩, z4⟩ := hz
          refine ⟨a, b, rfl, by rw [h2]; exact hs, h4, by rw [hbd]; exact alikeB_ok z1, by rw [hbd]; exact sortB_ok z2, fun y hy => ?_, by rw [hbl]; exact szOk_le z4, fun p hp => fin p _ hp rfl hq⟩
          have : dat y.1 ∈ dats xs := by rw [← hbd]; exact List.mem_map.mpr ⟨y, hy, rfl⟩
          have q := List.all_eq_true.mp z3 _ this
          rw [Bool.and_eq_true] at q
          exact ⟨of_decide_eq_true q.1, q.2⟩
        · cases hf
end
end CB

namespace CB
open PySem L2 PySem.Spec PyProof.Rows
variable [CT]

section
variable {X : Cx} {E : XK}
/-! ### list(range(..)), tuple(range(..)), t.index(x) -/
def rgOkB (i j : Int) : Bool := rgSz i && rgSz j && decide ((j - i).toNat ≤ 1000000)
theorem rgOkB_ok {i j : Int} (h : rgOkB i j = true) : RgOk i j := by
  unfold rgOkB rgSz at h
  simp only [Bool.and_eq_true, decide_eq_true_eq] at h
  exact ⟨by omega, by omega, by omega, by omega, by omega⟩
theorem rgV_rgD (H : Hp) (i j : Int) : Reps H (rgD i (j - i).toNat) (rgV i j) [] := by
  unfold rgD rgV
  have : ∀ l : List Nat, Reps H (l.map fun (k : Nat) => D.int (i + k)) (l.map fun (k : Nat) => V.int (i + k)) [] := by
    intro l
    induction l with
    | nil => exact .nil
    | cons n l ih => exact .cons (as := []) (bs := []) (.int _) ih
  exact this _
def rg1 (p : P) : Env → Option (Int × Int) := fun env => match p env with
  | .ok _ (.int j) => some (0, j)
  | _ => none
def rg2 (p q : P) : Env → Option (Int × Int) := fun env => match p env with
  | .ok _ (.int i) => match q env with
    | .ok _ (.int j) => some (i, j)
    | _ => none
  | _ => none
def SndR (X : Cx) (E : XK) (e : Expr) (q : Env → Option (Int × Int)) : Prop := ∃ t, PRg X e t ∧ ∀ (S : Addr → Prop) env σ H (R : Int → Int → Hp → Prop) i j, ObsEnv S H env σ → q env = some (i, j) → (∀ H', Ex H H' → R i j H') → t σ H R
theorem sndr_1 {e : Expr} {p : P} {p1 pos : Pos} (h : SndP X E e p) (hg : Gl X "range") (hm : X.mg "range" = none) (na : starEach [e] X.env = (false, eval e X.env) :: starEach [] X.env := by rfl) : SndR X E (.Call (.Name "range" p1) [e] [] pos) (rg1 p) := by
  obtain ⟨t, h1, h2⟩ := h
  refine ⟨_, prg_1 hg hm h1 na, fun S env σ H R i j o hq hR => h2 S env σ H _ o ?_⟩
  unfold rg1 at hq
  split at hq
  · rename_i f j' hp
    cases hq
    rw [hp]
    intro v H' as e r _ _
    cases r
    exact ⟨_, rfl, hR H' e⟩
  · cases hq
theorem sndr_2 {e e2 : Expr} {p q : P} {p1 pos : Pos} (h : SndP X E e p) (h' : SndP X E e2 q) (hg : Gl X "range") (hm : X.mg "range" = none) (na : starEach [e, e2] X.env = (false, eval e X.env) :: starEach [e2] X.env := by rfl)
    (nb : starEach [e2] X.env = (false, eval e2 X.env) :: starEach [] X.env := by rfl) (hp : (backTo pos (starEach [e2] X.env)).any (·.1) = false := by rfl) : SndR X E (.Call (.Name "range" p1) [e, e2] [] pos) (rg2 p q) := by
  obtain ⟨t, h1, h2⟩ := h
  obtain ⟨u, g1, g2⟩ := h'
  refine ⟨_, prg_2 hg hm h1 g1 na nb hp, fun S env σ H R i j o hq hR => h2 S env σ H _ o ?_⟩
  unfold rg2 at hq
  split at hq
  · rename_i f i' hp
    split at hq
    · rename_i f2 j' hq2
      cases hq
      rw [hp]
      intro v H1 as e1 r1 _ _
      cases r1
      refine g2 S env σ H1 _ (o.mono e1) ?_
      rw [hq2]
      intro v2 H2 bs e2 r2 _ _
      cases r2
      exact ⟨_, _, rfl, rfl, hR H2 (e1.trans e2)⟩
    · cases hq
  · cases hq
def lstRg (q : Env → Option (Int × Int)) : P := fun env => match q env with
  | some (i, j) => if rgOkB i j then .ok true (.lst (rgD i (j - i).toNat)) else .no
  | none => .no
def tupRg (q : Env → Option (Int × Int)) : P := fun env => match q env with
  | some (i, j) => if rgOkB i j then .ok true (.tup (rgD i (j - i).toNat)) else .no
  | none => .no
theorem snd_lstRg {e : Expr} {q : Env → Option (Int × Int)} {p pos : Pos} (hc : X.calm = true) (h : SndR X E e q) (hg : Gl X "list") (hm : X.mg "list" = none) (na : starEach [e] X.env = (false, eval e X.env) :: starEach [] X.env := by rfl) : SndP X E (.Call (.Name "list" p) [e] [] pos) (lstRg q) := by
  obtain ⟨t, h1, h2⟩ := h
  refine ⟨_, pe_listRg hc hg hm h1 na, fun S env σ H Q o w => ?_⟩
  unfold lstRg at w
  cases hq : q env with
  | none => rw [hq] at w; exact w.elim
  | some ij =>
    obtain ⟨i, j⟩ := ij
    rw [hq] at w
    simp only at w
    split at w
    · rename_i hz
      refine h2 S env σ H _ i j o hq fun H' e => ⟨rgOkB_ok hz, fun p hp => w _ _ [p] (e.trans (Ex.new hp)) (.newL hp (rgV_rgD H' i j)) (fun a m => ?_) fun _ => ⟨by simp, fun a m => ?_⟩⟩
      · simp at m; rw [m]; exact .inr (e.back hp)
      · simp at m; rw [m]; exact e.back hp
    · exact w.elim
theorem snd_tupRg {e : Expr} {q : Env → Option (Int × Int)} {p pos : Pos} (hc : X.calm = true) (h : SndR X E e q) (hg : Gl X "tuple") (hm : X.mg "tuple" = none) (na : starEach [e] X.env = (false, eval e X.env) :: starEach [] X.env := by rfl) : SndP X E (.Call (.Name "tuple" p) [e] [] pos) (tupRg q) := by
  obtain ⟨t, h1, h2⟩ := h
  refine ⟨_, pe_tupRgF hc hg hm h1 na, fun S env σ H Q o w => ?_⟩
  unfold tupRg at w
  cases hq : q env with
  | none => rw [hq] at w; exact w.elim
  | some ij =>
    obtain ⟨i, j⟩ := ij
    rw [hq] at w
    simp only at w
    split at w
    · rename_i hz
      exact h2 S env σ H _ i j o hq fun H' e => ⟨rgOkB_ok hz, fun p ob hp hd => w _ _ [] (e.trans (Ex.new hp)) (.newT hp hd (rgV_rgD H' i j)) noMem fun _ => .nil H⟩
    · exact w.elim
def tindexP (p q : P) : P := fun env => match p env with
  | .ok _ (.tup xs) => match q env with
    | .ok _ (.int k) => match toInts xs with
      | some ns => if ns.elem k then .ok true (.int (ns.idxOf k : Nat)) else .no
      | none => .no
    | .ok _ _ => .no
    | .ex x => .ex x
    | .no => .no
  | .ok _ _ => .no
  | .ex x => .ex x
  | .no => .no
theorem snd_tindex {o e : Expr} {p q : P} {apos cpos : Pos} (h : SndP X E o p) (h' : SndP X E e q)
    (hbase : attributeBase o ("index" : Str) X.env (eval o X.env) = eval o X.env := by rfl)
    (hfew : ((backTo cpos (starEach [e] X.env)).all (fun x => !x.1) && (backToKw cpos (keywordEach [] X.env)).all (fun x => x.1.isSome)
      && decide (([e] : List Expr).length + ([] : List Keyword).length + (if ([] : List Keyword).isEmpty then 0 else 1) < 30)) = true := by rfl)
    (hline : (apos.endLine == cpos.line) = true := by rfl) (hs : starEach [e] X.env = (false, eval e X.env) :: starEach [] X.env := by rfl) (hplain : (backTo cpos (starEach [] X.env)).any (·.1) = false := by rfl) :
    SndP X E (.Call (.Attribute o ("index" : Str) apos) [e] [] cpos) (tindexP p q) := by
  obtain ⟨t, h1, h2⟩ := h
  obtain ⟨u, g1, g2⟩ := h'
  refine ⟨_, pe_tindex h1 (pa_cons g1 pa_nil hs) hbase hfew hline hs hplain, fun S env σ H Q o w => h2 S env σ H _ o ?_⟩
  unfold tindexP at w
  cases hp : p env with
  | no => rw [hp] at w; exact w
  | ex x => rw [hp] at w; exact w
  | ok fa x =>
    rw [hp] at w
    intro v H1 as ex1 r1 m1 n1
    cases r1 with
    | @tup a ob vs xs _ ha hd s =>
      simp only at w
      refine ⟨⟨a, ob, vs, rfl, ha, hd⟩, g2 S env σ H1 _ (o.mono ex1) ?_⟩
      cases hq : q env with
      | no => rw [hq] at w; exact w
      | ex x => rw [hq] at w; exact fun c dx H' e' r => w c dx H' (ex1.trans e') r
      | ok fb y =>
        rw [hq] at w
        intro v2 H2 bs ex2 r2 _ _
        cases r2 with
        | int k =>
          simp only at w
          cases hi : toInts xs with
          | none => rw [hi] at w; exact w.elim
          | some ns =>
            rw [hi] at w
            simp only at w
            by_cases hk : ns.elem k = true
            · rw [if_pos hk] at w
              have e := toInts_eq hi
              subst e
              obtain ⟨ev, _⟩ := s.ints
              exact ⟨a, ob, ns, k, rfl, rfl, by rw [← ev]; exact ex2 _ _ ha, hd, by simpa using hk, w _ H2 [] (ex1.trans ex2) (.int _) noMem fun _ => .nil H⟩
            · rw [if_neg hk] at w; exact w.elim
        | _ => exact (show False from w).elim
    | _ => exact (show False from w).elim
end
end CB

namespace CB
open PySem L2 PySem.Spec PyProof.Rows
variable [CT]

def Sl.put : Sl → D → Sl
  | .emp, _ => .emp
  | .val _ _, d => .val true d
  | .ref _, d => .ref d
  | .pin, _ => .emp
/-- the value of a slot that is its own -/
def Sl.mine : Sl → Option D
  | .val true d => some d
  | .ref d => some d
  | _ => none
section
variable {M N : Addr → Prop} {fx : Addr → HO → Prop} {pin : Nat → Option V} {φ φ' : Lab} {H H' : Hp} {env : Env} {σ : L2.St} {ts us : List Tmp}
theorem SlOk.mine {i : Nat} {s : Sl} {w : Option (Option V)} {d : D} (h : SlOk pin φ H M i s w) (e : s.mine = some d) : ∃ v, w = some (some v) ∧ Held φ H M (.slot i) true d v ∧ ((∃ d, s = .ref d) → pin i = some v) := by
  cases s with
  | emp => cases e
  | pin => cases e
  | val o d' =>
    cases o with
    | false => cases e
    | true => cases e; obtain ⟨v, h1, h2⟩ := h; exact ⟨v, h1, h2, fun ⟨d, z⟩ => nomatch z⟩
  | ref d' => cases e; obtain ⟨v, h1, h0, h2⟩ := h; exact ⟨v, h1, h2, fun _ => h0⟩
theorem SlOk.put {i : Nat} {s : Sl} {v : V} {d d' : D} (e : s.mine = some d) (hp : (∃ d, s = .ref d) → pin i = some v) (h : Held φ H M (.slot i) true d' v) : SlOk pin φ H M i (s.put d') (some (some v)) := by
  cases s with
  | emp => trivial
  | pin => trivial
  | val o d' => exact ⟨v, rfl, h⟩
  | ref d' => exact ⟨v, rfl, hp ⟨_, rfl⟩, h⟩
theorem Good.drops (g : Good M N fx pin φ H env σ (ts ++ us)) : Good M N fx pin φ H env σ ts :=
  ⟨g.len, g.fix, g.own, g.free, g.slot, fun j u h => g.tmp j u (by rw [List.getElem?_append_left (List.getElem?_eq_some_iff.mp h).1]; exact h)⟩
/-- a slot's own list is changed -/
def mutL (φ : Lab) (bs : List Addr) (n i : Nat) : Lab := fun b => if b ∈ bs then some (.tmp n) else if φ b = some (.tmp n) then some (.slot i) else φ b
theorem Good.mut (g : Good M N fx pin φ H env σ (ts ++ us)) {i : Nat} {s : Sl} {d0 d' : D} {a : Addr} {o0 o1 : HO} {as bs : List Addr} {rs : Option (D × V)} (hs : env[i]? = some s) (hm : s.mine = some d0) (hv : σ[i]? = some (some (.ref a)))
    (hpin : (∃ d, s = .ref d) → pin i = some (.ref a)) (ha : φ a = some (.slot i)) (hH : H a = some o0)
    (r' : Rep (upd H a o1) d' (.ref a) as) (n' : as.Nodup) (m' : ∀ b ∈ as, b ∉ bs ∧ M b ∧ (φ b = some (.slot i) ∨ φ b = some (.tmp ts.length)))
    (hr : ∀ d w, rs = some (d, w) → Rep H d w bs) (hn : bs.Nodup) (hb : ∀ b ∈ bs, b ≠ a ∧ M b ∧ φ b = some (.slot i)) (i0 : Imm o0 = false := by rfl) (i1 : Imm o1 = false := by rfl) :
    Good M N fx pin (mutL φ bs ts.length i) (upd H a o1) (env.set i (s.put d')) σ (ts ++ (rs.map fun p => (true, p.1, p.2)).toList) := by
  have hab : a ∉ bs := fun z => (hb a z).1 rfl
  have oth : ∀ {l : Lb} {o : Bool} {d : D} {v : V}, l ≠ .slot i → l ≠ .tmp ts.length → Held φ H M l o d v → Held (mutL φ bs ts.length i) (upd H a o1) M l o d v := fun {l o d v} h1 h2 k => k.keep fun cs r q => by
    have nq : ∀ c ∈ cs, φ c ≠ some (.slot i) ∧ φ c ≠ some (.tmp ts.length) := fun c hc => by
      rw [q c hc]
      cases o with
      | true => simp [h1, h2]
      | false => simp
    refine ⟨r.keep fun c u hcu hci => ?_, fun c hc => ?_⟩
    · have : c ≠ a := fun z => by
        subst z
        rcases hci with z | z
        · exact (nq _ z).1 ha
        · rw [hH] at hcu; cases hcu; rw [i0] at z; cases z
      rw [upd_ne this]; exact hcu
    · unfold mutL
      rw [if_neg fun z => (nq c hc).1 (hb c z).2.2, if_neg (nq c hc).2]
      exact q c hc
  refine ⟨?_, fun c o h => ?_, fun c h => ?_, g.free, fun k s' h => ?_, fun j t h => ?_⟩
  · have := g.len; unfold Lens at *; rw [List.length_set]; exact this
  · obtain ⟨f1, f2⟩ := g.fix c o h
    have hca : c ≠ a := fun z => by rw [z, ha] at f2; cases f2
    refine ⟨by rw [upd_ne hca]; exact f1, ?_⟩
    unfold mutL
    rw [if_neg (fun z => by rw [(hb c z).2.2] at f2; cases f2), f2]; simp
  · have hc : φ c ≠ none := fun z => h (by
      unfold mutL
      rw [if_neg (fun y => by rw [(hb c y).2.2] at z; cases z), z]; simp)
    obtain ⟨h1, ws, h2, h3⟩ := g.own c hc
    refine ⟨h1, ?_⟩
    by_cases hca : c = a
    · subst hca; exact ⟨_, upd_same, i1⟩
    · exact ⟨ws, by rw [upd_ne hca]; exact h2, h3⟩
  · by_cases hk : k = i
    · subst hk
      have hl : k < env.length := (List.getElem?_eq_some_iff.mp hs).1
      rw [List.getElem?_set_self hl] at h
      cases h
      rw [hv]
      refine SlOk.put hm hpin ⟨as, r', fun b q => (m' b q).2.1, fun b q => ?_, fun _ => n'⟩
      unfold mutL
      rw [if_neg (m' b q).1]
      rcases (m' b q).2.2 with z | z
      · rw [z]; simp
      · rw [z]; simp
    · rw [List.getElem?_set_ne (Ne.symm hk)] at h
      exact (g.slot k s' h).keep fun o d v q => oth (fun z => hk (by cases z; rfl)) (fun z => nomatch z) q
  · by_cases hj : j < ts.length
    · rw [List.getElem?_append_left hj] at h
      exact oth (fun z => nomatch z) (fun z => by cases z; exact absurd hj (Nat.lt_irrefl _)) (g.tmp j t (by rw [List.getElem?_append_left hj]; exact h))
    · have hj' : j = ts.length := by
        have := (List.getElem?_eq_some_iff.mp h).1
        cases rs <;> simp at this <;> omega
      subst hj'
      cases rs with
      | none => simp at h
      | some p =>
        simp at h
        subst h
        refine ⟨bs, (hr p.1 p.2 rfl).keep fun c u hcu hci => ?_, fun b q => (hb b q).2.1, fun b q => ?_, fun _ => hn⟩
        · have : c ≠ a := fun z => by
            subst z
            rcases hci with z | z
            · exact hab z
            · rw [hH] at hcu; cases hcu; rw [i0] at z; cases z
          rw [upd_ne this]; exact hcu
        · unfold mutL
          rw [if_pos q]; rfl
end
end CB

namespace CB
open PySem L2 PySem.Spec PyProof.Rows
variable [CT]

/-! ### arguments that may change things -/
inductive GA where
  | ex (m : GE) | vr (i : Nat)
inductive U where
  | t (o : Bool) (d : D) | v (i : Nat)
inductive GAR where
  | ok (us : List U) (env : Env) | ex (x : Xn) (env : Env) | no
def argsG : List GA → Env → GAR
  | [], env => .ok [] env
  | .ex m :: as, env => match m env with
    | .ok o d env1 => match argsG as env1 with
      | .ok us env2 => .ok (.t o d :: us) env2
      | r => r
    | .ex x e => .ex x e
    | .no => .no
  | .vr i :: as, env => match Env.look env i with
    | some _ => match argsG as env with
      | .ok us env2 => .ok (.v i :: us) env2
      | r => r
    | none => .no
inductive Vm (σ : L2.St) : List U → List V → List Tmp → Prop
  | nil : Vm σ [] [] []
  | t {o : Bool} {d : D} {v : V} {us : List U} {vs : List V} {ws : List Tmp} : Vm σ us vs ws → Vm σ (.t o d :: us) (v :: vs) ((o, d, v) :: ws)
  | v {i : Nat} {v : V} {us : List U} {vs : List V} {ws : List Tmp} : σ[i]? = some (some v) → Vm σ us vs ws → Vm σ (.v i :: us) (v :: vs) ws
section
variable (M N : Addr → Prop) (fx : Addr → HO → Prop) (pin : Nat → Option V) (mg : Str → Option Value) (σ : L2.St) (ts : List Tmp) (E : XK)
def GAWant (Q : List V → Hp → Prop) : GAR → Prop
  | .ok us env => ∀ φ H vs ws, Vm σ us vs ws → Good M N fx pin φ H env σ (ts ++ ws) → Q vs H
  | .ex x env => ∀ φ H c dx, Good M N fx pin φ H env σ ts → XR mg x c dx H → E c dx H
  | .no => False
end
def SndAG (X : Cx) (E : XK) (es : List Expr) (ms : List GA) : Prop := ∃ t, PA X es t ∧ ∀ M N fx pin φ H env σ ts Q, Good M N fx pin φ H env σ ts → GAWant M N fx pin X.mg σ ts E Q (argsG ms env) → t σ H Q
/-- the values as they stand behind all arguments -/
def valsU (env : Env) : List U → Option (List D)
  | [] => some []
  | .t _ d :: us => (valsU env us).map (d :: ·)
  | .v i :: us => match Env.look env i with
    | some d => (valsU env us).map (d :: ·)
    | none => none
section
variable {M N : Addr → Prop} {fx : Addr → HO → Prop} {pin : Nat → Option V} {φ φ' : Lab} {H H' : Hp} {env : Env} {σ : L2.St} {ts us : List Tmp}
theorem Good.slotRep (g : Good M N fx pin φ H env σ ts) {i : Nat} {d : D} {v : V} (h : Env.look env i = some d) (hv : σ[i]? = some (some v)) : ∃ as, Rep H d v as := by
  obtain ⟨w, as, h1, h2, _⟩ := g.obs.get i d h
  rw [hv] at h1; cases h1
  exact ⟨as, h2⟩
theorem Vm.reps {us : List U} {vs : List V} {ws : List Tmp} (h : Vm σ us vs ws) : ∀ {ts : List Tmp} {ds : List D}, Good M N fx pin φ H env σ (ts ++ ws) → valsU env us = some ds → ∃ as, Reps H ds vs as := by
  induction h with
  | nil => intro ts ds g e; cases e; exact ⟨[], .nil⟩
  | @t o d v us vs ws hv ih =>
    intro ts ds g e
    simp only [valsU] at e
    cases e2 : valsU env us with
    | none => rw [e2] at e; cases e
    | some es =>
      rw [e2] at e; cases e
      obtain ⟨bs, rb⟩ := ih (ts := ts ++ [(o, d, v)]) (by simpa using g) e2
      obtain ⟨as, ra, _⟩ := g.tmp ts.length (o, d, v) (by simp)
      exact ⟨as ++ bs, .cons ra rb⟩
  | @v i v us vs ws hi hv ih =>
    intro ts ds g e
    simp only [valsU] at e
    cases e1 : Env.look env i with
    | none => rw [e1] at e; cases e
    | some d =>
      rw [e1] at e
      simp only at e
      cases e2 : valsU env us with
      | none => rw [e2] at e; cases e
      | some es =>
        rw [e2] at e; cases e
        obtain ⟨bs, rb⟩ := ih g e2
        obtain ⟨as, ra⟩ := g.slotRep e1 hi
        exact ⟨as ++ bs, .cons ra rb⟩
end
section
variable {X : Cx} {E : XK}
theorem sndag_nil : SndAG X E [] [] := ⟨_, pa_nil, fun M N fx pin φ H env σ ts Q g w => w φ H [] [] .nil (by simpa using g)⟩
theorem sndag_ex {e : Expr} {es : List Expr} {m : GE} {ms : List GA} (h : SndE X E e m) (hs : SndAG X E es ms) (hst : starEach (e :: es) X.env = (false, eval e X.env) :: starEach es X.env := by rfl) : SndAG X E (e :: es) (.ex m :: ms) := by
  obtain ⟨t, h1, h2⟩ := h
  obtain ⟨u, g1, g2⟩ := hs
  refine ⟨_, pa_cons h1 g1 hst, fun M N fx pin φ H env σ ts Q g w => h2 M N fx pin φ H env σ ts _ g ?_⟩
  simp only [argsG] at w
  cases hm : m env with
  | no => rw [hm] at w; exact w
  | ex x e => rw [hm] at w; exact w
  | ok o d env1 =>
    rw [hm] at w
    intro φ1 H1 v gg
    refine g2 M N fx pin φ1 H1 env1 σ _ _ gg ?_
    simp only at w
    cases ha : argsG ms env1 with
    | no => rw [ha] at w; exact w
    | ex x e => rw [ha] at w; exact fun φ' H' c dx g' r => w φ' H' c dx g'.drop1 r
    | ok us env2 =>
      rw [ha] at w
      exact fun φ' H' vs ws hv g' => w φ' H' (v :: vs) _ (.t hv) (by simpa using g')
theorem sndag_vr (i : Nat) {x : Str} {pos : Pos} {es : List Expr} {ms : List GA} (hN : X.N[i]? = some x) (hv : Vis X.env.scope x) (hs : SndAG X E es ms) (hst : starEach (.Name x pos :: es) X.env = (false, eval (.Name x pos) X.env) :: starEach es X.env := by rfl) (hd : (x == ("__debug__" : Str)) = false := by decide) (hcd : (x == ("__classdict__" : Str)) = false := by decide) :
    SndAG X E (.Name x pos :: es) (.vr i :: ms) := by
  obtain ⟨u, g1, g2⟩ := hs
  refine ⟨_, pa_cons (pe_var hN hv hd hcd) g1 hst, fun M N fx pin φ H env σ ts Q g w => ?_⟩
  simp only [argsG] at w
  cases hl : Env.look env i with
  | none => rw [hl] at w; exact w.elim
  | some d =>
    rw [hl] at w
    simp only at w
    obtain ⟨v, as, h1, _⟩ := g.obs.get i d hl
    refine ⟨v, h1, g2 M N fx pin φ H env σ ts _ g ?_⟩
    cases ha : argsG ms env with
    | no => rw [ha] at w; exact w
    | ex x e => rw [ha] at w; exact w
    | ok us env2 =>
      rw [ha] at w
      exact fun φ' H' vs ws hv g' => w φ' H' (v :: vs) ws (.v h1 hv) g'
/-- a built-in thing made of them -/
def opNG (f : List D → Option (Kd × D)) (ms : List GA) : GE := fun env => match argsG ms env with
  | .ok us env1 => match valsU env1 us with
    | some ds => match f ds with
      | some (k, d) => if gfl (k.fl (noLs ds)) d then .ok true d env1 else .no
      | none => .no
    | none => .no
  | .ex x e => .ex x e
  | .no => .no
theorem opNG_read {r : List V → Hp → VK → Prop} {f : List D → Option (Kd × D)} (hv : VN r f) (ms : List GA) {M N : Addr → Prop} {fx : Addr → HO → Prop} {pin : Nat → Option V} {env : Env} {σ : L2.St} {ts : List Tmp} {Q : VK} (w : GWant M N fx pin X.mg σ ts E Q (opNG f ms env)) :
    GAWant M N fx pin X.mg σ ts E (fun vs H => r vs H Q) (argsG ms env) := by
  unfold opNG at w
  cases ha : argsG ms env with
  | no => rw [ha] at w; exact w
  | ex x e => rw [ha] at w; exact w
  | ok us env1 =>
    rw [ha] at w
    intro φ H vs ws hvm g
    simp only at w
    cases e1 : valsU env1 us with
    | none => rw [e1] at w; exact w.elim
    | some ds =>
      rw [e1] at w
      simp only at w
      cases e2 : f ds with
      | none => rw [e2] at w; exact w.elim
      | some kd =>
        obtain ⟨k, d⟩ := kd
        rw [e2] at w
        simp only at w
        split at w
        · rename_i hg
          obtain ⟨as, ra⟩ := hvm.reps g e1
          refine hv H ds vs as k d Q ra e2 fun u H' cs e r ko => w _ H' u (g.drops.push e r (gfl_new hg r (kd_new (Ex.refl H) (fun z => ?_) ko)))
          rw [ra.noL z]; exact .nil H
        · exact w.elim
theorem snde_opN {e : Expr} {es : List Expr} {ms : List GA} {r : List V → Hp → VK → Prop} {f : List D → Option (Kd × D)} (mk : ∀ {t}, PA X es t → PE X e (tCB r t)) (hv : VN r f) (h : SndAG X E es ms) : SndE X E e (opNG f ms) := by
  obtain ⟨t, h1, h2⟩ := h
  exact ⟨_, mk h1, fun M N fx pin φ H env σ ts Q g w => h2 M N fx pin φ H env σ ts _ g (opNG_read hv ms w)⟩
theorem snde_tup {es : List Expr} {ms : List GA} {k : Nat} {pos : Pos} (h : SndAG X E es ms) : SndE X E (.Tuple es k pos) (opNG dTup ms) := snde_opN (fun a => pe_tupF a) v_tup h
theorem snde_lst {es : List Expr} {ms : List GA} {pos : Pos} (h : SndAG X E es ms) : SndE X E (.List es pos) (opNG dLst ms) := snde_opN (fun a => pe_lst a) v_lst h
theorem snde_b {x : Str} {id : String} {e : Expr} {es : List Expr} {ms : List GA} {p pos : Pos} {r : List V → Hp → VK → Prop} {f : List D → Option (Kd × D)} (hc : CallR X (.builtin id) r) (hv : VN r f) (hg : Gl X x) (hm : X.mg x = none) (hb : bootBuiltins x = some (.builtin id)) (h : SndAG X E (e :: es) ms)
    (hn : x ≠ "__name__" := by decide) (hdb : (x == ("__debug__" : Str)) = false := by decide) (he : starEach (e :: es) X.env = (false, eval e X.env) :: starEach es X.env := by rfl) (hpl : (backTo pos (starEach es X.env)).any (·.1) = false := by rfl) : SndE X E (.Call (.Name x p) (e :: es) [] pos) (opNG f ms) :=
  snde_opN (fun a => pe_callB hc hg hm hb a hn hdb he hpl) hv h
theorem snde_ty {x : Str} {T : String} {e : Expr} {es : List Expr} {ms : List GA} {p pos : Pos} {r : List V → Hp → VK → Prop} {f : List D → Option (Kd × D)} (hc : CallR X (.type T) r) (hv : VN r f) (hg : Gl X x) (hm : X.mg x = none) (hb : bootBuiltins x = some (.type T)) (h : SndAG X E (e :: es) ms)
    (hn : x ≠ "__name__" := by decide) (hdb : (x == ("__debug__" : Str)) = false := by decide) (he : starEach (e :: es) X.env = (false, eval e X.env) :: starEach es X.env := by rfl) (hpl : (backTo pos (starEach es X.env)).any (·.1) = false := by rfl) : SndE X E (.Call (.Name x p) (e :: es) [] pos) (opNG f ms) :=
  snde_opN (fun a => pe_callTy hc hg hm hb a hn hdb he hpl) hv h
/-! two operands -/
def opf (f : D → D → Option (Kd × D)) : List D → Option (Kd × D)
  | [x, y] => f x y
  | _ => none
def SndGA (X : Cx) (E : XK) (e : Expr) (m : GA) : Prop := ∃ t, PE X e t ∧ ∀ M N fx pin φ H env σ ts (Q : VK), Good M N fx pin φ H env σ ts → GAWant M N fx pin X.mg σ ts E (fun vs H => ∃ v, vs = [v] ∧ Q v H) (argsG [m] env) → t σ H Q
theorem sndga_ex {e : Expr} {m : GE} (h : SndE X E e m) : SndGA X E e (.ex m) := by
  obtain ⟨t, h1, h2⟩ := h
  refine ⟨t, h1, fun M N fx pin φ H env σ ts Q g w => h2 M N fx pin φ H env σ ts Q g ?_⟩
  simp only [argsG] at w
  cases hm : m env with
  | no => rw [hm] at w; exact w
  | ex x e => rw [hm] at w; exact w
  | ok o d env1 =>
    rw [hm] at w
    intro φ1 H1 v gg
    obtain ⟨v', e, q⟩ := w φ1 H1 [v] [(o, d, v)] (.t .nil) gg
    cases e; exact q
theorem sndga_vr (i : Nat) {x : Str} {pos : Pos} (hN : X.N[i]? = some x) (hv : Vis X.env.scope x) (hd : (x == ("__debug__" : Str)) = false := by decide) (hcd : (x == ("__classdict__" : Str)) = false := by decide) : SndGA X E (.Name x pos) (.vr i) := by
  refine ⟨_, pe_var hN hv hd hcd, fun M N fx pin φ H env σ ts Q g w => ?_⟩
  simp only [argsG] at w
  cases hl : Env.look env i with
  | none => rw [hl] at w; exact w.elim
  | some d =>
    rw [hl] at w
    obtain ⟨v, as, h1, _⟩ := g.obs.get i d hl
    obtain ⟨v', e, q⟩ := w φ H [v] [] (.v h1 .nil) (by simpa using g)
    cases e; exact ⟨v, h1, q⟩
theorem two_read {e1 e2 : Expr} {m1 m2 : GA} (h1 : SndGA X E e1 m1) (h2 : SndGA X E e2 m2) : ∃ ta tb, PE X e1 ta ∧ PE X e2 tb ∧ ∀ M N fx pin φ H env σ ts (R : V → V → Hp → Prop), Good M N fx pin φ H env σ ts → GAWant M N fx pin X.mg σ ts E (fun vs H => ∃ v w, vs = [v, w] ∧ R v w H) (argsG [m1, m2] env) → ta σ H fun x H1 => tb σ H1 fun y H2 => R x y H2 := by
  obtain ⟨ta, a1, a2⟩ := h1
  obtain ⟨tb, b1, b2⟩ := h2
  refine ⟨ta, tb, a1, b1, fun M N fx pin φ H env σ ts R g w => a2 M N fx pin φ H env σ ts _ g ?_⟩
  cases m1 with
  | ex m =>
    simp only [argsG] at w ⊢
    cases hm : m env with
    | no => rw [hm] at w; exact w
    | ex x e => rw [hm] at w; exact w
    | ok o d env1 =>
      rw [hm] at w
      simp only at w ⊢
      intro φ1 H1 vs ws hvm g1
      cases hvm with
      | @t _ _ v _ vs' ws' hvm =>
        cases hvm
        refine ⟨v, rfl, b2 M N fx pin φ1 H1 env1 σ (ts ++ [(o, d, v)]) _ g1 ?_⟩
        change GAWant M N fx pin X.mg σ ts E _ (match argsG [m2] env1 with | .ok us env2 => GAR.ok (.t o d :: us) env2 | r => r) at w
        cases ha : argsG [m2] env1 with
        | no => rw [ha] at w; exact w
        | ex x e => rw [ha] at w; exact fun φ' H' c dx g' r => w φ' H' c dx g'.drop1 r
        | ok us env2 =>
          rw [ha] at w
          intro φ2 H2 vs2 ws2 hv2 g2
          obtain ⟨v1, w1, e, q⟩ := w φ2 H2 (v :: vs2) _ (.t hv2) (by simpa using g2)
          cases e
          exact ⟨w1, rfl, q⟩
  | vr i =>
    simp only [argsG] at w ⊢
    cases hl : Env.look env i with
    | none => rw [hl] at w; exact w
    | some d0 =>
      rw [hl] at w
      simp only at w ⊢
      intro φ1 H1 vs ws hvm g1
      cases hvm with
      | @v _ v _ vs' ws' hi hvm =>
        cases hvm
        refine ⟨v, rfl, b2 M N fx pin φ1 H1 env σ ts _ (by simpa using g1) ?_⟩
        change GAWant M N fx pin X.mg σ ts E _ (match argsG [m2] env with | .ok us env2 => GAR.ok (.v i :: us) env2 | r => r) at w
        cases ha : argsG [m2] env with
        | no => rw [ha] at w; exact w
        | ex x e => rw [ha] at w; exact w
        | ok us env2 =>
          rw [ha] at w
          intro φ2 H2 vs2 ws2 hv2 g2
          obtain ⟨v1, w1, e, q⟩ := w φ2 H2 (v :: vs2) _ (.v hi hv2) g2
          cases e
          exact ⟨w1, rfl, q⟩
theorem vn_of_v2 {r : R2} {f : D → D → Option (Kd × D)} (hv : V2 r f) : VN (fun vs H Q => ∃ v w, vs = [v, w] ∧ r v w H Q) (opf f) := by
  intro H ds vs as k d Q rs e q
  match ds, e with
  | [x, y], e =>
    obtain ⟨v, w, bs, cs, e1, r1, r2, e2⟩ := rs.two
    subst e1 e2
    exact ⟨v, w, rfl, hv H x y v w bs cs k d Q r1 r2 e q⟩
theorem snde_op2 {e1 e2 e : Expr} {m1 m2 : GA} {r : R2} {f : D → D → Option (Kd × D)} (mk : ∀ {ta tb}, PE X e1 ta → PE X e2 tb → PE X e (tOp r ta tb)) (hv : V2 r f) (h1 : SndGA X E e1 m1) (h2 : SndGA X E e2 m2) : SndE X E e (opNG (opf f) [m1, m2]) := by
  obtain ⟨ta, tb, a1, b1, q⟩ := two_read h1 h2
  exact ⟨_, mk a1 b1, fun M N fx pin φ H env σ ts Q g w => q M N fx pin φ H env σ ts (fun x y H => r x y H Q) g (opNG_read (vn_of_v2 hv) [m1, m2] w)⟩
theorem snde_bin {e1 e2 : Expr} {m1 m2 : GA} {op : Operator} {pos : Pos} {r : R2} {f : D → D → Option (Kd × D)} (ho : OpR X (binaryOp op) r) (hv : V2 r f) (h1 : SndGA X E e1 m1) (h2 : SndGA X E e2 m2) : SndE X E (.BinOp e1 op e2 pos) (opNG (opf f) [m1, m2]) :=
  snde_op2 (fun a b => pe_op ho a b) hv h1 h2
theorem snde_cmp {e1 e2 : Expr} {m1 m2 : GA} {op : CmpOp} {pos : Pos} {r : R2} {f : D → D → Option (Kd × D)} (ho : OpR X (compareOp op) r) (hv : V2 r f) (h1 : SndGA X E e1 m1) (h2 : SndGA X E e2 m2) (hm : behindInMarks op e2 = false) : SndE X E (.Compare e1 [op] [e2] pos) (opNG (opf f) [m1, m2]) :=
  snde_op2 (fun a b => pe_cmpR ho a b hm) hv h1 h2
theorem snde_ix {e1 e2 : Expr} {m1 m2 : GA} {pos : Pos} {r : R2} {f : D → D → Option (Kd × D)} (ho : IxR X r) (hv : V2 r f) (h1 : SndGA X E e1 m1) (h2 : SndGA X E e2 m2) (hm : PlainIx e2 := by intro _ _; rfl) : SndE X E (.Subscript e1 e2 pos) (opNG (opf f) [m1, m2]) :=
  snde_op2 (fun a b => pe_ix ho a b hm) hv h1 h2
/-! tests that may change things -/
def TGWant (M N : Addr → Prop) (fx : Addr → HO → Prop) (pin : Nat → Option V) (mg : Str → Option Value) (σ : L2.St) (ts : List Tmp) (E : XK) (Q : Bool → Hp → Prop) : GR → Prop
  | .ok _ (.bl b) env => ∀ φ H, Good M N fx pin φ H env σ ts → Q b H
  | .ok _ _ _ => False
  | .ex x env => ∀ φ H c dx, Good M N fx pin φ H env σ ts → XR mg x c dx H → E c dx H
  | .no => False
def SndTG (X : Cx) (E : XK) (e : Expr) (m : GE) : Prop := ∃ t, PT X e t ∧ ∀ M N fx pin φ H env σ ts Q, Good M N fx pin φ H env σ ts → TGWant M N fx pin X.mg σ ts E Q (m env) → t σ H Q
theorem TGWant.toG {M N : Addr → Prop} {fx : Addr → HO → Prop} {pin : Nat → Option V} {mg : Str → Option Value} {σ : L2.St} {ts : List Tmp} {Q : Bool → Hp → Prop} {r : GR} (w : TGWant M N fx pin mg σ ts E Q r) : GWant M N fx pin mg σ ts E (fun x H' => ∃ k, x = V.bl k ∧ Q k H') r := by
  cases r with
  | no => exact w
  | ex x e => exact w
  | ok o d env =>
    intro φ H v g
    obtain ⟨as, r, _⟩ := g.tmp ts.length (o, d, v) (by simp)
    cases r with
    | bl b => exact ⟨b, rfl, w φ H g.drop1⟩
    | _ => exact (show False from w).elim
theorem sndtg_val {e : Expr} {m : GE} (h : SndE X E e m) (he : ∀ whole, isTrue e X.env whole = (do let v ← whole; standAt e.pos; holding [v] (truthy v)) := by intro _; rfl) : SndTG X E e m := by
  obtain ⟨t, h1, h2⟩ := h
  exact ⟨_, pt_val h1 he, fun M N fx pin φ H env σ ts Q g w => h2 M N fx pin φ H env σ ts _ g w.toG⟩
theorem sndtg_cmp {e1 e2 : Expr} {m1 m2 : GA} {op : CmpOp} {pos : Pos} {r : R2} {f : D → D → Option (Kd × D)} (ho : OpR X (compareOp op) r) (hv : V2 r f) (h1 : SndGA X E e1 m1) (h2 : SndGA X E e2 m2) (hm : behindInMarks op e2 = false) : SndTG X E (.Compare e1 [op] [e2] pos) (opNG (opf f) [m1, m2]) := by
  obtain ⟨ta, tb, a1, b1, q⟩ := two_read h1 h2
  exact ⟨_, pt_cmpR ho a1 b1 hm, fun M N fx pin φ H env σ ts Q g w => q M N fx pin φ H env σ ts (fun x y H => r x y H fun z H' => ∃ k, z = V.bl k ∧ Q k H') g (opNG_read (vn_of_v2 hv) [m1, m2] w.toG)⟩
def ifG (p : GE) (m n : SM) : SM := fun env => match p env with
  | .ok _ (.bl true) e => m e
  | .ok _ (.bl false) e => n e
  | .ok _ _ _ => .no
  | .ex x e => .ex x e
  | .no => .no
theorem snds_ifG {c : Expr} {a b : List Stmt} {p : GE} {m n : SM} {pos : Pos} (hc : SndTG X E c p) (ha : SndB X E a m) (hb : SndB X E b n) : SndS X E (.If c a b pos) (ifG p m n) := by
  obtain ⟨t, c1, c2⟩ := hc
  obtain ⟨u, a1, a2⟩ := ha
  obtain ⟨z, b1, b2⟩ := hb
  refine ⟨_, ps_if c1 a1 b1, fun M N fx pin φ H env σ ts K g w => c2 M N fx pin φ H env σ ts _ g ?_⟩
  unfold ifG at w
  cases hp : p env with
  | no => rw [hp] at w; exact w
  | ex x e => rw [hp] at w; exact fun φ' H' c dx g' r => w φ' H' σ c dx g' r
  | ok f d e =>
    rw [hp] at w
    cases d with
    | bl b =>
      intro φ1 H1 g1
      cases b with
      | true => exact iteT (a2 M N fx pin φ1 H1 e σ ts K g1 w)
      | false => exact iteF (b2 M N fx pin φ1 H1 e σ ts K g1 w)
    | _ => exact (show False from w).elim
/-! a name's own value is handed on -/
def mvG (i : Nat) : GE := fun env => match env[i]? with
  | some (.val true d) => .ok true d (env.set i .emp)
  | some (.val false d) => .ok (noL d) d env
  | _ => .no
theorem snde_mv (i : Nat) {x : Str} {pos : Pos} (hN : X.N[i]? = some x) (hv : Vis X.env.scope x) (hd : (x == ("__debug__" : Str)) = false := by decide) (hcd : (x == ("__classdict__" : Str)) = false := by decide) : SndE X E (.Name x pos) (mvG i) := by
  refine ⟨_, pe_var hN hv hd hcd, fun M N fx pin φ H env σ ts Q g w => ?_⟩
  unfold mvG at w
  cases he : env[i]? with
  | none => rw [he] at w; exact w.elim
  | some s =>
    rw [he] at w
    have hs := g.slot i s he
    cases s with
    | emp => exact w.elim
    | pin => exact w.elim
    | ref d => exact w.elim
    | val o d =>
      obtain ⟨v, h1, h2⟩ := hs
      cases o with
      | false =>
        refine ⟨v, h1, w φ H v ⟨g.len, g.fix, g.own, g.free, g.slot, fun j t h => ?_⟩⟩
        by_cases hj : j < ts.length
        · rw [List.getElem?_append_left hj] at h
          exact g.tmp j t h
        · have hj' : j = ts.length := by
            have := (List.getElem?_eq_some_iff.mp h).1
            simp at this; omega
          subst hj'
          simp at h
          subst h
          obtain ⟨as, r, m, q, n⟩ := h2
          cases hn : noL d with
          | false => exact ⟨as, r, m, fun a ha => q a ha, fun z => by cases z⟩
          | true =>
            have := r.noL hn
            subst this
            exact ⟨[], r, m, noMem, fun _ => List.nodup_nil⟩
      | true =>
        simp only at w
        refine ⟨v, h1, w (fun a => if φ a = some (.slot i) then some (.tmp ts.length) else φ a) H v ?_⟩
        have oth : ∀ {l : Lb} {o : Bool} {d : D} {v : V}, l ≠ .slot i → Held φ H M l o d v → Held (fun a => if φ a = some (.slot i) then some (.tmp ts.length) else φ a) H M l o d v := fun {l o d v} hl k => k.keep fun as r q => ⟨r, fun a ha => by
          show (if φ a = some (.slot i) then some (.tmp ts.length) else φ a) = _
          rw [q a ha]
          cases o with
          | true => simp [hl]
          | false => simp⟩
        refine ⟨by have := g.len; unfold Lens at *; rw [List.length_set]; exact this, fun a o h => ⟨(g.fix a o h).1, by show (if φ a = some (.slot i) then some (.tmp ts.length) else φ a) = _; rw [(g.fix a o h).2]; simp⟩, fun a h => g.own a fun z => h (by show (if φ a = some (.slot i) then some (.tmp ts.length) else φ a) = _; rw [z]; simp), g.free, fun k s h => ?_, fun j t h => ?_⟩
        · by_cases hk : k = i
          · subst hk
            have hl : k < env.length := (List.getElem?_eq_some_iff.mp he).1
            rw [List.getElem?_set_self hl] at h
            cases h; trivial
          · rw [List.getElem?_set_ne (Ne.symm hk)] at h
            exact (g.slot k s h).keep fun o d v q => oth (fun z => hk (by cases z; rfl)) q
        · by_cases hj : j < ts.length
          · rw [List.getElem?_append_left hj] at h
            exact oth (fun z => nomatch z) (g.tmp j t h)
          · have hj' : j = ts.length := by
              have := (List.getElem?_eq_some_iff.mp h).1
              simp at this; omega
            subst hj'
            simp at h
            subst h
            obtain ⟨as, r, m, q, n⟩ := h2
            exact ⟨as, r, m, fun a ha => by show (if φ a = some (.slot i) then some (.tmp ts.length) else φ a) = _; rw [q a ha]; simp, n⟩
end
end CB

namespace CB
open PySem L2 PySem.Spec PyProof.Rows
variable [CT]

section
variable {X : Cx} {E : XK}
variable {M N : Addr → Prop} {fx : Addr → HO → Prop} {pin : Nat → Option V} {φ φ' : Lab} {H H' : Hp} {env : Env} {σ : L2.St} {ts us : List Tmp}
/-- the slot's own list -/
def myLst (env : Env) (i : Nat) : Option (Sl × List D) := match env[i]? with
  | some s => match s.mine with
    | some (.lst xs) => some (s, xs)
    | _ => none
  | none => none
theorem myLst_ok (g : Good M N fx pin φ H env σ ts) {i : Nat} {s : Sl} {xs : List D} (h : myLst env i = some (s, xs)) :
    ∃ a vs as, env[i]? = some s ∧ s.mine = some (.lst xs) ∧ σ[i]? = some (some (.ref a)) ∧ ((∃ d, s = .ref d) → pin i = some (.ref a)) ∧ φ a = some (.slot i) ∧ H a = some (.lst vs) ∧ M a ∧ Reps H xs vs as ∧ (a :: as).Nodup ∧ ∀ b ∈ as, M b ∧ φ b = some (.slot i) := by
  unfold myLst at h
  cases e : env[i]? with
  | none => rw [e] at h; cases h
  | some s' =>
    rw [e] at h
    simp only at h
    cases e2 : s'.mine with
    | none => rw [e2] at h; cases h
    | some d =>
      rw [e2] at h
      cases d <;> cases h
      obtain ⟨v, h1, h2, h3⟩ := (g.slot i s e).mine e2
      obtain ⟨as, r, m, q, n⟩ := h2
      cases r with
      | @lst a vs xs as' ha rs =>
        exact ⟨a, vs, as', rfl, e2, h1, h3, q a List.mem_cons_self, ha, m a List.mem_cons_self, rs, n rfl, fun b hb => ⟨m b (List.mem_cons_of_mem _ hb), q b (List.mem_cons_of_mem _ hb)⟩⟩
theorem Reps.upd {xs : List D} {vs ws : List V} {as : List Addr} {a : Addr} {ws' : List V} (r : Reps H xs vs as) (ha : H a = some (.lst ws)) (n : a ∉ as) : Reps (L2.upd H a (.lst ws')) xs vs as := r.keep fun c o hc hi => by
  have : c ≠ a := fun z => by
    subst z
    rcases hi with z | z
    · exact n z
    · rw [ha] at hc; cases hc; cases z
  rw [upd_ne this]; exact hc
theorem tyV_list {K : PySem.W.Frag} {a : Addr} {vs : List V} (h : H a = some (.lst vs)) : tyV K "list" (.ref a) H := .inl ⟨rfl, vs, SqL.of h⟩
/-! x.append(e) -/
def appendG (i : Nat) (m : GE) : GE := fun env => match Env.look env i with
  | some (.lst _) => match m env with
    | .ok o d env1 => match myLst env1 i with
      | some (s, xs) => if (o || noL d) && szOk xs.length then .ok true .non (env1.set i (s.put (.lst (xs ++ [d])))) else .no
      | none => .no
    | .ex x e => .ex x e
    | .no => .no
  | _ => .no
theorem look_lst (g : Good M N fx pin φ H env σ ts) {i : Nat} {xs : List D} (h : Env.look env i = some (.lst xs)) : ∃ a vs, σ[i]? = some (some (.ref a)) ∧ H a = some (.lst vs) := by
  obtain ⟨v, as, h1, h2, _⟩ := g.obs.get i _ h
  cases h2 with
  | @lst a vs xs as' ha rs => exact ⟨a, vs, h1, ha⟩
theorem nodup_snoc {as bs : List Addr} (ha : as.Nodup) (hb : bs.Nodup) (h : ∀ a ∈ as, a ∉ bs) : (as ++ bs).Nodup := List.nodup_append.mpr ⟨ha, hb, fun a x b y e => h a x (e ▸ y)⟩
/-- a temporary's own nodes -/
theorem own_tmp {o : Bool} {d : D} {v : V} (g : Good M N fx pin φ H env σ (ts ++ [(o, d, v)])) (h : (o || noL d) = true) : ∃ as, Rep H d v as ∧ as.Nodup ∧ ∀ a ∈ as, M a ∧ φ a = some (.tmp ts.length) := by
  obtain ⟨as, r, m, q, n⟩ := g.tmp ts.length (o, d, v) (by simp)
  cases o with
  | true => exact ⟨as, r, n rfl, fun a ha => ⟨m a ha, q a ha⟩⟩
  | false =>
    have z := r.noL (by simpa using h)
    subst z
    exact ⟨[], r, List.nodup_nil, noMem⟩
theorem snde_append {i : Nat} {x : Str} {e : Expr} {m : GE} {p apos cpos : Pos} (hN : X.N[i]? = some x) (hvx : Vis X.env.scope x) (h : SndE X E e m)
    (hbase : attributeBase (.Name x p) ("append" : Str) X.env (eval (.Name x p) X.env) = eval (.Name x p) X.env := by rfl)
    (hfew : ((backTo cpos (starEach [e] X.env)).all (fun x => !x.1) && (backToKw cpos (keywordEach [] X.env)).all (fun x => x.1.isSome)
      && decide (([e] : List Expr).length + ([] : List Keyword).length + (if ([] : List Keyword).isEmpty then 0 else 1) < 30)) = true := by rfl)
    (hline : (apos.endLine == cpos.line) = true := by rfl) (hs : starEach [e] X.env = (false, eval e X.env) :: starEach [] X.env := by rfl) (hplain : (backTo cpos (starEach [] X.env)).any (·.1) = false := by rfl)
    (hd : (x == ("__debug__" : Str)) = false := by decide) (hcd : (x == ("__classdict__" : Str)) = false := by decide) :
    SndE X E (.Call (.Attribute (.Name x p) ("append" : Str) apos) [e] [] cpos) (appendG i m) := by
  obtain ⟨t, h1, h2⟩ := h
  refine ⟨_, pe_bm PySem.F.plainAttrs_list PySem.F.slot_list_append PySem.F.type_list_append mt_append (pe_var hN hvx hd hcd) (pa_cons h1 pa_nil hs) hbase hfew hline hs hplain, fun M N fx pin φ H env σ ts Q g w => ?_⟩
  unfold appendG at w
  split at w
  · rename_i xs0 hl
    obtain ⟨a0, vs0, k1, k2⟩ := look_lst g hl
    refine ⟨.ref a0, k1, tyV_list k2, h2 M N fx pin φ H env σ ts _ g ?_⟩
    cases hm : m env with
    | no => rw [hm] at w; exact w
    | ex x e => rw [hm] at w; exact w
    | ok o d env1 =>
      rw [hm] at w
      simp only at w
      intro φ1 H1 v g1
      split at w
      · rename_i s xs hy
        split at w
        · rename_i hz
          simp only [Bool.and_eq_true] at hz
          obtain ⟨a, vs, as, e1, e2, e3, e4, e5, e6, e7, e8, e9, e10⟩ := myLst_ok g1 hy
          rw [k1] at e3; cases e3
          obtain ⟨bs, b1, b2, b3⟩ := own_tmp g1 hz.1
          have hab : a0 ∉ bs := fun z => by have := (b3 _ z).2; rw [e5] at this; cases this
          have has : a0 ∉ as := (List.nodup_cons.mp e9).1
          have disj : ∀ b ∈ as, b ∉ bs := fun b hb hb2 => by have := (b3 _ hb2).2; rw [(e10 b hb).2] at this; cases this
          refine ⟨a0, vs, v, rfl, rfl, e6, szOk_lt (by rw [← e8.length]; exact hz.2), w _ _ _ (g1.mut (us := [(o, d, v)]) (bs := []) (rs := some (.non, .non)) (as := a0 :: (as ++ bs)) e1 e2 k1 e4 e5 e6 (.lst upd_same ?_) ?_ (fun b hb => ⟨by simp, ?_⟩) (fun d w e => by cases e; exact .non) List.nodup_nil fun b z => nomatch z)⟩
          · have : Reps H1 [d] [v] (bs ++ []) := .cons b1 .nil
            rw [List.append_nil] at this
            exact (e8.append this).upd e6 fun z => (List.mem_append.mp z).elim has hab
          · exact List.nodup_cons.mpr ⟨fun z => (List.mem_append.mp z).elim has hab, nodup_snoc (List.nodup_cons.mp e9).2 b2 disj⟩
          · rcases List.mem_cons.mp hb with z | z
            · subst z; exact ⟨e7, .inl e5⟩
            · rcases List.mem_append.mp z with z | z
              · exact ⟨(e10 b z).1, .inl (e10 b z).2⟩
              · exact ⟨(b3 b z).1, .inr (b3 b z).2⟩
        · exact w.elim
      · exact w.elim
  · exact w.elim
/-! x.pop(k) -/
def popG (i : Nat) (m : GE) : GE := fun env => match Env.look env i with
  | some (.lst _) => match m env with
    | .ok _ (.int k) env1 => match myLst env1 i with
      | some (s, xs) => match ixN xs.length k with
        | some j => match xs[j]? with
          | some y => if szOk xs.length then .ok true y (env1.set i (s.put (.lst (xs.eraseIdx j)))) else .no
          | none => .no
        | none => .no
      | none => .no
    | .ok _ _ _ => .no
    | .ex x e => .ex x e
    | .no => .no
  | _ => .no
theorem Reps.erase {H : Hp} : ∀ {xs : List D} {vs : List V} {as : List Addr} {j : Nat} {d : D}, Reps H xs vs as → xs[j]? = some d → ∃ v bs cs es, vs[j]? = some v ∧ Rep H d v bs ∧ as = cs ++ bs ++ es ∧ Reps H (xs.eraseIdx j) (vs.eraseIdx j) (cs ++ es)
  | _, _, _, 0, _, .cons (as := as) (bs := bs) r rs, h => by
    cases h
    exact ⟨_, as, [], bs, rfl, r, by simp, by simpa using rs⟩
  | _, _, _, j + 1, d, .cons (as := as) (bs := bs) r rs, h => by
    obtain ⟨v, ys, cs, es, h1, h2, h3, h4⟩ := Reps.erase (j := j) rs (by simpa using h)
    exact ⟨v, ys, as ++ cs, es, by simpa using h1, h2, by rw [h3]; simp [List.append_assoc], by
      have := Reps.cons r h4
      simpa [List.append_assoc] using this⟩
theorem popG_core {i : Nat} {s : Sl} {xs : List D} {j : Nat} {y : D} {o : Bool} {dk : D} {vk : V} (g1 : Good M N fx pin φ H env σ (ts ++ us)) (hy : myLst env i = some (s, xs)) (hj : xs[j]? = some y) :
    ∃ a vs v, σ[i]? = some (some (.ref a)) ∧ H a = some (.lst vs) ∧ vs.length = xs.length ∧ vs[j]? = some v ∧ ∃ φ', Good M N fx pin φ' (upd H a (.lst (vs.eraseIdx j))) (env.set i (s.put (.lst (xs.eraseIdx j)))) σ (ts ++ [(true, y, v)]) := by
  obtain ⟨a, vs, as, e1, e2, e3, e4, e5, e6, e7, e8, e9, e10⟩ := myLst_ok g1 hy
  obtain ⟨v, bs, cs, es, h1, h2, h3, h4⟩ := e8.erase hj
  have hno := (List.nodup_cons.mp e9)
  have sub : ∀ b, b ∈ cs ++ es → b ∈ as := fun b hb => by rw [h3]; simp only [List.mem_append] at hb ⊢; rcases hb with z | z <;> simp [z]
  have subb : ∀ b, b ∈ bs → b ∈ as := fun b hb => by rw [h3]; simp [hb]
  have nd := hno.2
  rw [h3] at nd
  have nd1 : bs.Nodup := (List.nodup_append.mp (List.nodup_append.mp nd).1).2.1
  have nd2 : (cs ++ es).Nodup := by
    refine nd.sublist ?_
    exact List.Sublist.append (List.sublist_append_left cs bs) (List.Sublist.refl es)
  have disj : ∀ b ∈ cs ++ es, b ∉ bs := fun b hb hb2 => by
    have n2 := List.nodup_append.mp nd
    have n1 := List.nodup_append.mp n2.1
    rcases List.mem_append.mp hb with z | z
    · exact n1.2.2 b z b hb2 rfl
    · exact n2.2.2 b (List.mem_append_right _ hb2) b z rfl
  refine ⟨a, vs, v, e3, e6, e8.length.symm, h1, _, g1.mut (bs := bs) (rs := some (y, v)) (as := a :: (cs ++ es)) e1 e2 e3 e4 e5 e6 (.lst upd_same (h4.upd e6 fun z => hno.1 (sub _ z))) (List.nodup_cons.mpr ⟨fun z => hno.1 (sub _ z), nd2⟩) (fun b hb => ?_) (fun d w e => by cases e; exact h2) nd1 fun b hb => ⟨fun z => hno.1 (z ▸ subb b hb), (e10 b (subb b hb)).1, (e10 b (subb b hb)).2⟩⟩
  rcases List.mem_cons.mp hb with z | z
  · subst z; exact ⟨fun z => hno.1 (subb _ z), e7, .inl e5⟩
  · exact ⟨disj b z, (e10 b (sub b z)).1, .inl (e10 b (sub b z)).2⟩
theorem snde_pop {i : Nat} {x : Str} {e : Expr} {m : GE} {p apos cpos : Pos} (hN : X.N[i]? = some x) (hvx : Vis X.env.scope x) (h : SndE X E e m)
    (hbase : attributeBase (.Name x p) ("pop" : Str) X.env (eval (.Name x p) X.env) = eval (.Name x p) X.env := by rfl)
    (hfew : ((backTo cpos (starEach [e] X.env)).all (fun x => !x.1) && (backToKw cpos (keywordEach [] X.env)).all (fun x => x.1.isSome)
      && decide (([e] : List Expr).length + ([] : List Keyword).length + (if ([] : List Keyword).isEmpty then 0 else 1) < 30)) = true := by rfl)
    (hline : (apos.endLine == cpos.line) = true := by rfl) (hs : starEach [e] X.env = (false, eval e X.env) :: starEach [] X.env := by rfl) (hplain : (backTo cpos (starEach [] X.env)).any (·.1) = false := by rfl)
    (hd : (x == ("__debug__" : Str)) = false := by decide) (hcd : (x == ("__classdict__" : Str)) = false := by decide) :
    SndE X E (.Call (.Attribute (.Name x p) ("pop" : Str) apos) [e] [] cpos) (popG i m) := by
  obtain ⟨t, h1, h2⟩ := h
  refine ⟨_, pe_bm PySem.F.plainAttrs_list PySem.F.slot_list_pop PySem.F.type_list_pop mt_popAt (pe_var hN hvx hd hcd) (pa_cons h1 pa_nil hs) hbase hfew hline hs hplain, fun M N fx pin φ H env σ ts Q g w => ?_⟩
  unfold popG at w
  split at w
  · rename_i xs0 hl
    obtain ⟨a0, vs0, k1, k2⟩ := look_lst g hl
    refine ⟨.ref a0, k1, tyV_list k2, h2 M N fx pin φ H env σ ts _ g ?_⟩
    cases hm : m env with
    | no => rw [hm] at w; exact w
    | ex x e => rw [hm] at w; exact w
    | ok o d env1 =>
      rw [hm] at w
      intro φ1 H1 v g1
      obtain ⟨ask, rk, _⟩ := g1.tmp ts.length (o, d, v) (by simp)
      cases rk with
      | int k =>
        simp only at w
        split at w
        · rename_i s xs hy
          split at w
          · rename_i j hj
            split at w
            · rename_i y hjy
              split at w
              · rename_i hz
                obtain ⟨a, vs, vv, q1, q2, q3, q4, φ2, q5⟩ := popG_core (o := o) (dk := .int k) (vk := .int k) g1 hy hjy
                rw [k1] at q1; cases q1
                obtain ⟨s1, s2, s3, s4⟩ := ixN_seq hj
                have hz' := szOk_le hz
                have : xs.length ≤ 1000000 := by unfold szOk at hz; exact Nat.le_of_ble_eq_true hz
                exact ⟨a0, vs, k, j, vv, rfl, rfl, q2, by omega, by omega, by rw [q3]; exact s1, q4, w _ _ _ q5⟩
              · exact w.elim
            · exact w.elim
          · exact w.elim
        · exact w.elim
      | _ => exact (show False from w).elim
  · exact w.elim
def pop0G (i : Nat) : GE := fun env => match myLst env i with
  | some (s, xs) => match xs[xs.length - 1]? with
    | some y => .ok true y (env.set i (s.put (.lst (xs.eraseIdx (xs.length - 1)))))
    | none => .no
  | none => .no
theorem snde_pop0 {i : Nat} {x : Str} {p apos cpos : Pos} (hN : X.N[i]? = some x) (hvx : Vis X.env.scope x)
    (hbase : attributeBase (.Name x p) ("pop" : Str) X.env (eval (.Name x p) X.env) = eval (.Name x p) X.env := by rfl) (hline : (apos.endLine == cpos.line) = true := by rfl)
    (hd : (x == ("__debug__" : Str)) = false := by decide) (hcd : (x == ("__classdict__" : Str)) = false := by decide) :
    SndE X E (.Call (.Attribute (.Name x p) ("pop" : Str) apos) [] [] cpos) (pop0G i) := by
  refine ⟨_, pe_bm0 PySem.F.plainAttrs_list PySem.F.slot_list_pop PySem.F.type_list_pop mt_pop (pe_var hN hvx hd hcd) hbase hline, fun M N fx pin φ H env σ ts Q g w => ?_⟩
  unfold pop0G at w
  split at w
  · rename_i s xs hy
    split at w
    · rename_i y hjy
      obtain ⟨a, vs, vv, q1, q2, q3, q4, φ2, q5⟩ := popG_core (us := []) (o := true) (dk := .non) (vk := .non) (by simpa using g) hy hjy
      refine ⟨.ref a, q1, tyV_list q2, a, vs, vv, rfl, rfl, q2, by rw [q3]; exact q4, ?_⟩
      have e : vs.eraseIdx (xs.length - 1) = vs.dropLast := by rw [← q3]; exact List.eraseIdx_length_sub_one
      rw [← e]
      exact w _ _ _ q5
    · exact w.elim
  · exact w.elim
/-! x.clear() -/
def clearG (i : Nat) : GE := fun env => match myLst env i with
  | some (s, _) => .ok true .non (env.set i (s.put (.lst [])))
  | none => .no
theorem snde_clear {i : Nat} {x : Str} {p apos cpos : Pos} (hN : X.N[i]? = some x) (hvx : Vis X.env.scope x)
    (hbase : attributeBase (.Name x p) ("clear" : Str) X.env (eval (.Name x p) X.env) = eval (.Name x p) X.env := by rfl) (hline : (apos.endLine == cpos.line) = true := by rfl)
    (hd : (x == ("__debug__" : Str)) = false := by decide) (hcd : (x == ("__classdict__" : Str)) = false := by decide) :
    SndE X E (.Call (.Attribute (.Name x p) ("clear" : Str) apos) [] [] cpos) (clearG i) := by
  refine ⟨_, pe_bm0 PySem.F.plainAttrs_list PySem.F.slot_list_clear PySem.F.type_list_clear mt_clear (pe_var hN hvx hd hcd) hbase hline, fun M N fx pin φ H env σ ts Q g w => ?_⟩
  unfold clearG at w
  split at w
  · rename_i s xs hy
    obtain ⟨a, vs, as, e1, e2, e3, e4, e5, e6, e7, e8, e9, e10⟩ := myLst_ok g hy
    refine ⟨.ref a, e3, tyV_list e6, a, vs, rfl, rfl, e6, w _ _ _ (Good.mut (us := []) (by simpa using g) (bs := []) (rs := some (.non, .non)) (as := [a]) e1 e2 e3 e4 e5 e6 (.lst upd_same .nil) (by simp) (fun b hb => ⟨by simp, ?_⟩) (fun d w e => by cases e; exact .non) List.nodup_nil fun b z => nomatch z)⟩
    simp at hb; subst hb; exact ⟨e7, .inl e5⟩
  · exact w.elim
/-! x[k] = e -/
def setiS (i : Nat) (p : P) (m : GE) : SM := fun env => match m env with
  | .ok o d env1 => match p env1 with
    | .ok _ (.int k) => match myLst env1 i with
      | some (s, xs) => match ixN xs.length k with
        | some j => if o || noL d then .nx (env1.set i (s.put (.lst (xs.set j d)))) else .no
        | none => .no
      | none => .no
    | _ => .no
  | .ex x e => .ex x e
  | .no => .no
theorem Reps.set {H : Hp} : ∀ {xs : List D} {vs : List V} {as bs : List Addr} {j : Nat} {d : D} {v : V}, Reps H xs vs as → Rep H d v bs → j < xs.length → ∃ cs ys es, as = cs ++ ys ++ es ∧ Reps H (xs.set j d) (vs.set j v) (cs ++ bs ++ es)
  | _, _, _, bs, 0, d, v, .cons (as := as) (bs := zs) r rs, q, h => ⟨[], as, zs, by simp, by simpa using Reps.cons q rs⟩
  | _, _, _, bs, j + 1, d, v, .cons (as := as) (bs := zs) r rs, q, h => by
    obtain ⟨cs, ys, es, h1, h2⟩ := Reps.set (j := j) rs q (by simpa using h)
    exact ⟨as ++ cs, ys, es, by rw [h1]; simp [List.append_assoc], by
      have := Reps.cons r h2
      simpa [List.append_assoc] using this⟩
theorem snds_seti {i : Nat} {x : Str} {e ix : Expr} {m : GE} {p : P} {px ps pos : Pos} (hN : X.N[i]? = some x) (hvx : Vis X.env.scope x) (h : SndE X E e m) (hi : SndP X E ix p)
    (ha : ∀ v, assign (.Subscript (.Name x px) ix ps) X.env v = (do
      let ov ← holding [v] (eval (.Name x px) X.env)
      let iv ← holding [v, ov] (eval ix X.env)
      standAt ps
      holding [v, ov, iv] (setItem ov iv v)
      release [v, ov, iv] []) := by intro _; rfl)
    (hs : swapsWithSole [.Subscript (.Name x px) ix ps] e pos.line X.env = pure false := by rfl) (hw : swappedStores [.Subscript (.Name x px) ix ps] e X.env = pure none := by rfl)
    (h1 : (assignEach [.Subscript (.Name x px) ix ps] X.env).map (·.2) = [assign (.Subscript (.Name x px) ix ps) X.env] := by rfl)
    (hd : (x == ("__debug__" : Str)) = false := by decide) (hcd : (x == ("__classdict__" : Str)) = false := by decide) :
    SndS X E (.Assign [.Subscript (.Name x px) ix ps] e pos) (setiS i p m) := by
  obtain ⟨t, h1', h2⟩ := h
  obtain ⟨ti, i1, i2⟩ := hi
  refine ⟨_, ps_asg h1' (pg_sub (pe_var hN hvx hd hcd) i1 set_list ha) hs hw h1, fun M N fx pin φ H env σ ts K g w => h2 M N fx pin φ H env σ ts _ g ?_⟩
  unfold setiS at w
  cases hm : m env with
  | no => rw [hm] at w; exact w
  | ex x e => rw [hm] at w; exact fun φ' H' c dx g' r => w φ' H' σ c dx g' r
  | ok o d env1 =>
    rw [hm] at w
    intro φ1 H1 v g1
    simp only at w
    cases hp : p env1 with
    | no => rw [hp] at w; exact w.elim
    | ex x => rw [hp] at w; exact w.elim
    | ok f dk =>
      rw [hp] at w
      cases dk with
      | int k =>
        simp only at w
        split at w
        · rename_i s xs hy
          split at w
          · rename_i j hj
            split at w
            · rename_i hz
              obtain ⟨a, vs, as, e1, e2, e3, e4, e5, e6, e7, e8, e9, e10⟩ := myLst_ok g1 hy
              refine ⟨.ref a, e3, i2 M env1 σ H1 _ g1.obs ?_⟩
              rw [hp]
              intro vk H2 bk ex2 rk _ _
              cases rk
              have g2 := g1.ext ex2
              obtain ⟨a', vs', as', e1, e2, e3', e4, e5, e6, e7, e8, e9, e10⟩ := myLst_ok g2 hy
              rw [e3] at e3'; cases e3'
              obtain ⟨bs, b1, b2, b3⟩ := own_tmp g2 hz
              obtain ⟨s1, s2, s3, s4⟩ := ixN_seq hj
              obtain ⟨cs, ys, es, c1, c2⟩ := e8.set b1 s2
              have hno := List.nodup_cons.mp e9
              have hab : a ∉ bs := fun z => by have := (b3 _ z).2; rw [e5] at this; cases this
              have sub : ∀ b, b ∈ cs ++ es → b ∈ as' := fun b hb => by rw [c1]; simp only [List.mem_append] at hb ⊢; rcases hb with z | z <;> simp [z]
              have memb : ∀ b, b ∈ cs ++ bs ++ es → b ∈ bs ∨ b ∈ as' := fun b hb => by
                simp only [List.mem_append] at hb
                rcases hb with (z | z) | z
                · exact .inr (sub b (List.mem_append_left _ z))
                · exact .inl z
                · exact .inr (sub b (List.mem_append_right _ z))
              have disj : ∀ b ∈ as', b ∉ bs := fun b hb hb2 => by have := (b3 _ hb2).2; rw [(e10 b hb).2] at this; cases this
              have nd2 : (cs ++ es).Nodup := by
                have nd := hno.2
                rw [c1] at nd
                exact nd.sublist (List.Sublist.append (List.sublist_append_left cs ys) (List.Sublist.refl es))
              have nd3 : (cs ++ bs ++ es).Nodup := by
                have n := List.nodup_append.mp nd2
                rw [List.append_assoc]
                refine nodup_snoc n.1 (nodup_snoc b2 n.2.1 fun b hb hb2 => disj b (sub b (List.mem_append_right _ hb2)) hb) fun b hb hb2 => ?_
                rcases List.mem_append.mp hb2 with z | z
                · exact disj b (sub b (List.mem_append_left _ hb)) z
                · exact n.2.2 b hb b z rfl
              have naa : a ∉ cs ++ bs ++ es := fun z => (memb a z).elim hab hno.1
              refine ⟨a, vs', k, j, rfl, rfl, e6, by rw [← e8.length]; exact hj, ?_⟩
              have gg := g2.mut (us := [(o, d, v)]) (bs := []) (rs := none) (as := a :: (cs ++ bs ++ es)) e1 e2 e3 e4 e5 e6 (.lst upd_same (c2.upd e6 naa)) (List.nodup_cons.mpr ⟨naa, nd3⟩) (fun b hb => ⟨by simp, ?_⟩) (fun d w e => nomatch e) List.nodup_nil fun b z => nomatch z
              · exact w _ _ _ (by simpa using gg)
              · rcases List.mem_cons.mp hb with z | z
                · subst z; exact ⟨e7, .inl e5⟩
                · rcases memb b z with z | z
                  · exact ⟨(b3 b z).1, .inr (b3 b z).2⟩
                  · exact ⟨(e10 b z).1, .inl (e10 b z).2⟩
            · exact w.elim
          · exact w.elim
        · exact w.elim
      | _ => exact (show False from w).elim
end
end CB

namespace CB
open PySem L2 PySem.Spec PyProof.Rows
variable [CT]

/-! ### for -/
section
variable {M N : Addr → Prop} {fx fx' : Addr → HO → Prop} {pin : Nat → Option V} {φ φ' : Lab} {H H' : Hp} {env : Env} {σ : L2.St} {ts us : List Tmp}
/-- more is held fast -/
theorem Good.fixed (g : Good M N fx pin φ H env σ ts) (h : ∀ a o, fx' a o → H a = some o ∧ φ a = none) : Good M N (fun a o => fx a o ∨ fx' a o) pin φ H env σ ts :=
  ⟨g.len, fun a o z => z.elim (g.fix a o) (h a o), g.own, fun p z => g.free p fun o y => z o (.inl y), g.slot, g.tmp⟩
theorem Good.unfixed (g : Good M N (fun a o => fx a o ∨ fx' a o) pin φ H env σ ts) (f : ∀ p, (∀ o, ¬ fx p o) → N p ∧ M p) : Good M N fx pin φ H env σ ts :=
  ⟨g.len, fun a o z => g.fix a o (.inl z), g.own, f, g.slot, g.tmp⟩
/-- shared values kept as temporaries -/
def shT (ds : List D) (vs : List V) : List Tmp := (ds.zip vs).map fun p => (false, p.1, p.2)
def Shd (φ : Lab) (H : Hp) (M : Addr → Prop) (us : List Tmp) : Prop := ∀ t ∈ us, t.1 = false ∧ ∃ as, Rep H t.2.1 t.2.2 as ∧ ∀ a ∈ as, M a ∧ φ a = none
theorem Good.keepT (g : Good M N fx pin φ H env σ ts) (h : Shd φ H M us) : Good M N fx pin φ H env σ (ts ++ us) :=
  ⟨g.len, g.fix, g.own, g.free, g.slot, fun j t e => by
    by_cases hj : j < ts.length
    · rw [List.getElem?_append_left hj] at e; exact g.tmp j t e
    · rw [List.getElem?_append_right (by omega)] at e
      obtain ⟨h1, as, h2, h3⟩ := h t (List.mem_of_getElem? e)
      rw [h1]
      exact ⟨as, h2, fun a q => (h3 a q).1, fun a q => (h3 a q).2, fun z => nomatch z⟩⟩
theorem Good.shd (g : Good M N fx pin φ H env σ (ts ++ us)) (h : ∀ t ∈ us, t.1 = false) : Shd φ H M us := fun t ht => by
  obtain ⟨j, hj⟩ := List.getElem?_of_mem ht
  have := g.tmp (ts.length + j) t (by rw [List.getElem?_append_right (by omega)]; simpa using hj)
  obtain ⟨as, r, m, q, _⟩ := this
  rw [h t ht] at q
  exact ⟨h t ht, as, r, fun a z => ⟨m a z, q a z⟩⟩
theorem Reps.shd {φ : Lab} {H : Hp} {M : Addr → Prop} : ∀ {ds : List D} {vs : List V} {as : List Addr}, Reps H ds vs as → (∀ a ∈ as, M a ∧ φ a = none) → Shd φ H M (shT ds vs)
  | _, _, _, .nil, _ => fun t h => by simp [shT] at h
  | _, _, _, .cons (as := as) (bs := bs) r rs, m => fun t h => by
    simp only [shT, List.zip_cons_cons, List.map_cons, List.mem_cons] at h
    rcases h with h | h
    · subst h; exact ⟨rfl, as, r, fun a q => m a (List.mem_append_left _ q)⟩
    · exact Reps.shd rs (fun a q => m a (List.mem_append_right _ q)) t h
theorem shd_reps {φ : Lab} {H : Hp} {M : Addr → Prop} : ∀ {ds : List D} {vs : List V}, ds.length = vs.length → Shd φ H M (shT ds vs) → ∃ as, Reps H ds vs as ∧ ∀ a ∈ as, M a ∧ φ a = none
  | [], [], _, _ => ⟨[], .nil, noMem⟩
  | d :: ds, v :: vs, hl, h => by
    obtain ⟨_, as, r, m⟩ := h (false, d, v) (by simp [shT])
    obtain ⟨bs, rs, ms⟩ := shd_reps (ds := ds) (vs := vs) (by simpa using hl) fun t ht => h t (by simp only [shT, List.zip_cons_cons, List.map_cons, List.mem_cons]; exact .inr ht)
    exact ⟨as ++ bs, .cons r rs, fun a q => (List.mem_append.mp q).elim (m a) (ms a)⟩
  | [], _ :: _, hl, _ => by simp at hl
  | _ :: _, [], hl, _ => by simp at hl
/-- one temporary instead of several -/
theorem Good.squash {t : Tmp} (g : Good M N fx pin φ H env σ (ts ++ us ++ [t])) : ∃ φ', Good M N fx pin φ' H env σ (ts ++ [t]) := by
  refine ⟨fun a => if φ a = some (.tmp (ts ++ us).length) then some (.tmp ts.length) else if φ a = some (.tmp ts.length) then none else φ a, ?_⟩
  have oth : ∀ {l : Lb} {o : Bool} {d : D} {v : V}, l ≠ .tmp (ts ++ us).length → l ≠ .tmp ts.length → Held φ H M l o d v → Held (fun a => if φ a = some (.tmp (ts ++ us).length) then some (.tmp ts.length) else if φ a = some (.tmp ts.length) then none else φ a) H M l o d v := fun {l o d v} h1 h2 k => k.keep fun as r q => ⟨r, fun a ha => by
    show (if φ a = some (.tmp (ts ++ us).length) then some (.tmp ts.length) else if φ a = some (.tmp ts.length) then none else φ a) = _
    rw [q a ha]
    cases o with
    | true => simp only [if_true, Option.some.injEq, h1, h2, if_false]
    | false => simp⟩
  refine ⟨g.len, fun a o h => ⟨(g.fix a o h).1, ?_⟩, fun a h => g.own a fun z => h ?_, g.free, fun k s h => (g.slot k s h).keep fun o d v q => oth (fun z => nomatch z) (fun z => nomatch z) q, fun j u h => ?_⟩
  · show (if φ a = some (.tmp (ts ++ us).length) then some (.tmp ts.length) else if φ a = some (.tmp ts.length) then none else φ a) = _
    rw [(g.fix a o h).2]; simp
  · show (if φ a = some (.tmp (ts ++ us).length) then some (.tmp ts.length) else if φ a = some (.tmp ts.length) then none else φ a) = _
    rw [z]; simp
  · by_cases hj : j < ts.length
    · rw [List.getElem?_append_left hj] at h
      refine oth (fun z => ?_) (fun z => ?_) (g.tmp j u (by rw [List.append_assoc, List.getElem?_append_left hj]; exact h))
      · cases z; simp at hj; omega
      · cases z; omega
    · have hj' : j = ts.length := by
        have := (List.getElem?_eq_some_iff.mp h).1
        simp at this; omega
      subst hj'
      simp at h
      subst h
      obtain ⟨as, r, m, q, n⟩ := g.tmp (ts ++ us).length t (by simp)
      refine ⟨as, r, m, fun a ha => ?_, n⟩
      show (if φ a = some (.tmp (ts ++ us).length) then some (.tmp ts.length) else if φ a = some (.tmp ts.length) then none else φ a) = _
      rw [q a ha]
      cases t.1 with
      | true => simp
      | false => simp
/-- a shared value into a slot -/
theorem Good.bind1 (g : Good M N fx pin φ H env σ ts) {d : D} {v : V} {as : List Addr} {i : Nat} (r : Rep H d v as) (m : ∀ a ∈ as, M a ∧ φ a = none) : Good M N fx pin (unl φ i) H (env.set i (.val false d)) (σ.set i (some v)) ts := by
  refine ⟨g.len.set, fun a u h => ⟨(g.fix a u h).1, by unfold unl; rw [(g.fix a u h).2]; simp⟩, fun a h => g.own a fun z => h (by unfold unl; rw [z]; simp), g.free, fun k s h => ?_, fun j t h => (g.tmp j t h).unl fun z => nomatch z⟩
  by_cases hk : k = i
  · subst hk
    have hlen : k < env.length := by
      have := (List.getElem?_eq_some_iff.mp h).1
      rwa [List.length_set] at this
    rw [List.getElem?_set_self hlen] at h
    cases h
    refine ⟨v, by rw [List.getElem?_set_self (Nat.lt_of_lt_of_le hlen g.len)], as, r, fun a q => (m a q).1, fun a q => ?_, fun z => nomatch z⟩
    unfold unl
    rw [(m a q).2]; simp
  · rw [List.getElem?_set_ne (Ne.symm hk)] at h
    rw [List.getElem?_set_ne (Ne.symm hk)]
    exact (g.slot k s h).keep fun o d v q => q.unl fun z => hk (by cases z; rfl)
theorem Good.bindAll : ∀ {is : List Nat} {ds : List D} {vs : List V} {as : List Addr} {φ : Lab} {env env' : Env} {σ : L2.St}, Good M N fx pin φ H env σ ts → Reps H ds vs as → (∀ a ∈ as, M a ∧ φ a = none) → setAll env is ds = some env' → ∃ φ', Good M N fx pin φ' H env' (setV σ is vs) ts
  | [], [], _, _, φ, _, _, _, g, .nil, _, h => by cases h; exact ⟨φ, g⟩
  | i :: is, d :: ds, _, _, φ, env, env', σ, g, .cons r rs, m, h => by
    simp only [setAll] at h
    exact Good.bindAll (is := is) (ds := ds) (g.bind1 r fun a q => m a (List.mem_append_left _ q)) rs (fun a q => ⟨(m a (List.mem_append_right _ q)).1, by unfold unl; rw [(m a (List.mem_append_right _ q)).2]; simp⟩) h
  | [], _ :: _, _, _, _, _, _, _, _, _, _, h => by simp [setAll] at h
  | _ :: _, [], _, _, _, _, _, _, _, _, _, h => by simp [setAll] at h
theorem Good.bindT (g : Good M N fx pin φ H env σ ts) {env' : Env} {σ' : L2.St} {τ : Tgt} {d : D} {v : V} {as : List Addr} (r : Rep H d v as) (m : ∀ a ∈ as, M a ∧ φ a = none) (h : CB.bindT τ d env = some env') (hg : tgV τ v H σ σ') : ∃ φ', Good M N fx pin φ' H env' σ' ts := by
  cases τ with
  | nm i =>
    cases h
    have e : σ' = σ.set i (some v) := hg
    subst e
    exact ⟨_, g.bind1 r m⟩
  | tp is =>
    obtain ⟨a, vs, e1, e2, e3⟩ := hg
    subst e1 e3
    cases r with
    | tup ha hd s =>
      rcases e2 with ⟨o', e2⟩ | e2 <;> rw [ha] at e2 <;> cases e2
      exact g.bindAll s m h
    | tp0 ha s =>
      rcases e2 with ⟨o', e2⟩ | e2 <;> rw [ha] at e2 <;> cases e2
      exact g.bindAll s m h
    | lst ha s => simp [CB.bindT] at h
    | frz ha s => simp [CB.bindT] at h
    | exc _ _ _ _ _ => simp [CB.bindT] at h
    | excF _ _ _ _ _ _ _ _ => simp [CB.bindT] at h
    | dic _ _ _ _ => simp [CB.bindT] at h
end
/-- a target must be no slot that is held by a caller -/
def noRef (env : Env) : List Nat → Bool
  | [] => true
  | i :: is => (match env[i]? with
    | some (.ref _) => false
    | _ => true) && noRef env is
def loopS (τ : Tgt) (m : SM) : List D → Env → SR
  | [], env => .nx env
  | d :: ds, env => match bindT τ d env with
    | some env1 => match m env1 with
      | .nx env2 => loopS τ m ds env2
      | r => r
    | none => .no
def forS (ks : List Nat) (τ : Tgt) (ι : I) (m : SM) : SM := fun env => match ι env with
  | .ok f ds => if f && noLs ds then loopS τ m ds env else match ι (hide ks 0 env) with
    | .ok _ ds2 => loopS τ m ds2 (demK ks env)
    | _ => .no
  | .ex x => .ex x env
  | .no => .no
section
variable {X : Cx} {E : XK}
theorem loop_core {M N : Addr → Prop} {fx : Addr → HO → Prop} {pin : Nat → Option V} {φ : Lab} {H : Hp} {env : Env} {σ : L2.St} {ts us : List Tmp} {K : Ends} {τ : Tgt} {m : SM} {tb : TS} {g : TG} {J : It} {fi : Addr → HO → Prop} {ds : List D} {cD : Nat → List D} {cV : Nat → List V}
    (h2 : ∀ M N fx pin φ H env σ ts K, Good M N fx pin φ H env σ ts → SWant M N fx pin X.mg ts E K (m env) → tb K σ H)
    (hg : ∀ (v : V) (σ : L2.St) (H : Hp) (d : D) (as : List Addr) (Q : L2.St → Hp → Prop), Rep H d v as → Fits τ d → (∀ σ', tgV τ v H σ σ' → Q σ' H) → g v σ H Q)
    (sv : Serves J fi ds cD cV) (hl : ∀ i, i < ds.length → (cD i).length = (cV i).length ∧ ∀ t ∈ shT (cD i) (cV i), t ∈ us) (hus : ∀ t ∈ us, t.1 = false)
    (g0 : Good M N (fun a o => fx a o ∨ fi a o) pin φ H env σ (ts ++ us)) (gf : ∀ p, (∀ o, ¬ fx p o) → N p ∧ M p) (w : SWant M N fx pin X.mg ts E K (loopS τ m ds env)) :
    ∃ W : Nat → Nat → L2.St → Hp → Prop, (∃ m, W 0 m σ H) ∧ ∀ i m σ H, W i m σ H →
      (J.stop i H ∧ K.nx σ H) ∨ (J.go i H ∧ ∃ N : L2.St → Hp → Prop, (∀ σ' H', N σ' H' → ∃ m', m' < m ∧ W (i + 1) m' σ' H') ∧ ∀ x H', J.yld i H x H' → g x σ H' fun σ2 H2 => tb { K with nx := N, ct := N, bk := K.nx } σ2 H2) := by
  refine ⟨fun i n σ H => n = ds.length - i ∧ i ≤ ds.length ∧ ∃ φ env, Good M N (fun a o => fx a o ∨ fi a o) pin φ H env σ (ts ++ us) ∧ SWant M N fx pin X.mg ts E K (loopS τ m (ds.drop i) env), ⟨ds.length, by simp, Nat.zero_le _, φ, env, g0, by simpa using w⟩, ?_⟩
  rintro i n σ H ⟨rfl, hi, φ, env, g1, w1⟩
  have hf : Holds fi H := fun a o z => (g1.fix a o (.inr z)).1
  by_cases hlt : i < ds.length
  · obtain ⟨d, hd⟩ : ∃ d, ds[i]? = some d := ⟨ds[i], by simp⟩
    have ed : ds.drop i = d :: ds.drop (i + 1) := by
      have e2 : ds[i] = d := by
        have := List.getElem?_eq_getElem hlt
        rw [this] at hd; exact Option.some.inj hd
      rw [← e2]
      exact List.drop_eq_getElem_cons hlt
    rw [ed] at w1
    simp only [loopS] at w1
    refine .inr ⟨sv.go i H hlt hf, fun σ' H' => ∃ φ' env', Good M N (fun a o => fx a o ∨ fi a o) pin φ' H' env' σ' (ts ++ us) ∧ SWant M N fx pin X.mg ts E K (loopS τ m (ds.drop (i + 1)) env'), fun σ' H' ⟨φ', env', g', w'⟩ => ⟨ds.length - (i + 1), by omega, rfl, hlt, φ', env', g', w'⟩, fun x H' hy => ?_⟩
    obtain ⟨ex, rx⟩ := sv.yld i H x H' hf hy d hd
    obtain ⟨as, ra, ma⟩ := shd_reps (hl i hlt).1 (fun t ht => (g1.shd hus) t ((hl i hlt).2 t ht))
    have rd := rx as ra
    cases hb : bindT τ d env with
    | none => rw [hb] at w1; exact w1.elim
    | some env1 =>
      rw [hb] at w1
      simp only at w1
      refine hg x σ H' d as _ rd (bindT_fits hb) fun σ' ht => ?_
      obtain ⟨φ2, g2⟩ := (g1.ext ex).bindT rd ma hb ht
      refine h2 _ _ _ _ φ2 H' env1 σ' _ _ g2 ?_
      cases hm : m env1 with
      | no => rw [hm] at w1; exact w1
      | nx env2 => rw [hm] at w1; exact fun φ3 H3 σ3 g3 => ⟨φ3, env2, g3, w1⟩
      | ex x env2 => rw [hm] at w1; exact fun φ3 H3 σ3 c dx g3 r => w1 φ3 H3 σ3 c dx (g3.drops.unfixed gf) r
      | rt o d env2 =>
        rw [hm] at w1
        intro φ3 H3 σ3 v g3
        obtain ⟨φ4, g4⟩ := g3.squash
        exact w1 φ4 H3 σ3 v (g4.unfixed gf)
  · have e : i = ds.length := by omega
    subst e
    rw [List.drop_length] at w1
    exact .inl ⟨sv.stop _ H (Nat.le_refl _) hf, w1 φ H σ (g1.drops.unfixed gf)⟩
theorem snds_for {tg iter : Expr} {body : List Stmt} {ι : I} {τ : Tgt} {m : SM} {pos : Pos} (ks : List Nat) (hp : PassesOwn (model X.prog X.w) X.A X.env X.xe) (hc : X.calm = true) (hi : SndI X E tg iter ι) (hg : SndG X tg τ) (hb : SndB X E body m)
    (hs : ∀ x, foldedSetIterable iter X.env x = pure x := by intro _; rfl) : SndS X E (.For tg iter body [] pos) (forS ks τ ι m) := by
  obtain ⟨wi, i1, i2⟩ := hi
  obtain ⟨gg, q1, q2⟩ := hg
  obtain ⟨tb, b1, b2⟩ := hb
  refine ⟨_, ps_for hp hc i1 q1 b1 hs, fun M N fx pin φ H env σ ts K g w => ?_⟩
  unfold forS at w
  have items : ∀ {S : Addr → Prop} {H' : Hp} {φ' : Lab} {n : Nat} {cD : Nat → List D} {cV : Nat → List V}, (∀ i, i < n → ∃ as, Reps H' (cD i) (cV i) as ∧ ∀ a ∈ as, S a ∨ H a = none) → (∀ i, i < n → ∀ as, Reps H' (cD i) (cV i) as → ∀ a ∈ as, S a ∨ H a = none → M a ∧ φ' a = none) →
      Shd φ' H' M ((List.range n).flatMap fun i => shT (cD i) (cV i)) ∧ ∀ i, i < n → (cD i).length = (cV i).length ∧ ∀ t ∈ shT (cD i) (cV i), t ∈ (List.range n).flatMap fun i => shT (cD i) (cV i) := by
    intro S H' φ' n cD cV h1 h2
    refine ⟨fun t ht => ?_, fun i hi => ?_⟩
    · obtain ⟨i, hi, ht⟩ := List.mem_flatMap.mp ht
      have hi' : i < n := List.mem_range.mp hi
      obtain ⟨as, r, ma⟩ := h1 i hi'
      exact (r.shd fun a q => h2 i hi' as r a q (ma a q)) t ht
    · obtain ⟨as, r, _⟩ := h1 i hi
      exact ⟨r.length, fun t ht => List.mem_flatMap.mpr ⟨i, List.mem_range.mpr hi, ht⟩⟩
  have allf : ∀ {n : Nat} {cD : Nat → List D} {cV : Nat → List V}, ∀ t ∈ (List.range n).flatMap fun i => shT (cD i) (cV i), t.1 = false := by
    intro n cD cV t ht
    obtain ⟨i, _, ht⟩ := List.mem_flatMap.mp ht
    unfold shT at ht
    obtain ⟨p, _, e⟩ := List.mem_map.mp ht
    rw [← e]
  cases hι : ι env with
  | no => rw [hι] at w; exact w.elim
  | ex x =>
    refine i2 M env σ H _ g.obs ?_
    rw [hι] at w ⊢
    exact fun c dx H' e r => w φ H' σ c dx (g.ext e) r
  | ok f ds =>
    rw [hι] at w
    simp only at w
    split at w
    · rename_i hz
      simp only [Bool.and_eq_true] at hz
      refine i2 M env σ H _ g.obs ?_
      rw [hι]
      intro J H1 fi cD cV e1 sv hfi hcv hfr hcs
      have g1 := g.ext e1
      have nolI : ∀ i, i < ds.length → noLs (cD i) = true := fun i hi => by
        have e : ds[i]? = some ds[i] := by simp
        refine sv.nol i _ e ?_
        have : ∀ {l : List D}, noLs l = true → ∀ d ∈ l, noL d = true := by
          intro l
          induction l with
          | nil => intro _ d h; cases h
          | cons x l ih =>
            intro h d hd
            simp only [noLs, Bool.and_eq_true] at h
            rcases List.mem_cons.mp hd with z | z
            · subst z; exact h.1
            · exact ih h.2 d z
        exact this hz.2 _ (List.getElem_mem hi)
      obtain ⟨hsh, hin⟩ := items (S := M) (φ' := φ) hcv fun i hi as r a ha => by
        rw [r.noL (nolI i hi)] at ha; cases ha
      exact loop_core b2 q2 sv hin allf ((g1.keepT hsh).fixed fun a o z => ⟨hfi a o z, by
        rcases hfr hz.1 a o z with y | y
        · exact g.lab_none y
        · cases hq : φ a with
          | none => rfl
          | some l =>
            obtain ⟨_, vs, hv, hi⟩ := g1.own a (by rw [hq]; exact fun z => nomatch z)
            rw [hfi a o z] at hv; cases hv; rw [hi] at y; cases y⟩) g.free w
    · cases hι2 : ι (hide ks 0 env) with
      | no => rw [hι2] at w; exact w.elim
      | ex x => rw [hι2] at w; exact w.elim
      | ok f2 ds2 =>
        rw [hι2] at w
        simp only at w
        refine i2 _ _ σ H _ (g.obsK ks) ?_
        rw [hι2]
        intro J H1 fi cD cV e1 sv hfi hcv hfr hcs
        obtain ⟨φ', g', k1, k2⟩ := g.demK ks
        have g1 := g'.ext e1
        have lab : ∀ a, (M a ∧ (φ a = none ∨ ∃ k ∈ ks, φ a = some (.slot k))) ∨ H a = none → M a ∧ φ' a = none := fun a z => by
          rcases z with ⟨y1, y | ⟨k, hk, y⟩⟩ | y
          · exact ⟨y1, k1 a y⟩
          · exact ⟨y1, k2 k hk a y⟩
          · exact ⟨(g.fresh y).2, k1 a (g.lab_none y)⟩
        obtain ⟨hsh, hin⟩ := items (φ' := φ') hcv fun i hi as r a ha z => lab a z
        exact loop_core b2 q2 sv hin allf ((g1.keepT hsh).fixed fun a o z => ⟨hfi a o z, by
          rcases hcs a o z with y | y | y
          · exact (lab a (.inl y)).2
          · exact (lab a (.inr y)).2
          · cases hq : φ' a with
            | none => rfl
            | some l =>
              obtain ⟨_, vs, hv, hi⟩ := g1.own a (by rw [hq]; exact fun z => nomatch z)
              rw [hfi a o z] at hv; cases hv; rw [hi] at y; cases y⟩) g.free w
end
end CB

namespace CB
open PySem L2 PySem.Spec PyProof.Rows
variable [CT]

/-! ### defs that change a list that is handed in (parameter r) -/
inductive RR where
  | ok (o : Bool) (d dr : D) | ex (x : Xn) (dr : D) | no
def RWant (asr : List Addr) (vr : V) (mg : Str → Option Value) (H : Hp) (Q : VK) (E : XK) : RR → Prop
  | .ok o d dr => ∀ v H' as' cs, (∀ a u, H a = some u → a ∉ asr → H' a = some u) → Rep H' dr vr as' → as'.Nodup → (∀ a ∈ as', a ∈ asr ∨ H a = none) → Rep H' d v cs → (o = true → cs.Nodup ∧ ∀ a ∈ cs, a ∉ as' ∧ (a ∈ asr ∨ H a = none)) → Q v H'
  | .ex x dr => ∀ c dx H' as', (∀ a u, H a = some u → a ∉ asr → H' a = some u) → Rep H' dr vr as' → as'.Nodup → (∀ a ∈ as', a ∈ asr ∨ H a = none) → XR mg x c dx H' → E c dx H'
  | .no => False
def spR (n r : Nat) (mg : Str → Option Value) (F : List D → RR) : Sp := fun vs H Q E => vs.length = n ∧ ∃ ds dr vr asr, ds.length = n ∧ ds[r]? = some dr ∧ vs[r]? = some vr ∧ Rep H dr vr asr ∧ asr.Nodup ∧
  (∀ j, j ≠ r → ∀ d v, ds[j]? = some d → vs[j]? = some v → ∃ bs, Rep H d v bs ∧ ∀ a ∈ bs, a ∉ asr) ∧ RWant asr vr mg H Q E (F ds)
def startR (n r : Nat) (ds : List D) : Env := match ds[r]? with
  | some d => (startE n ds).set r (.ref d)
  | none => startE n ds
def endR (r : Nat) (env : Env) (k : D → RR) : RR := match env[r]? with
  | some (.ref d) => k d
  | _ => .no
def fnR (n r : Nat) (m : SM) (ds : List D) : RR := match m (startR n r ds) with
  | .nx e => endR r e fun dr => .ok true .non dr
  | .rt o d e => endR r e fun dr => .ok o d dr
  | .ex x e => endR r e fun dr => .ex x dr
  | .no => .no
theorem Good.startR {H : Hp} {ds : List D} {vs : List V} {n r : Nat} {NN : List Str} {dr : D} {vr : V} {asr : List Addr} (hn : NN.length = n) (hk : ds.length ≤ n) (hl : ds.length = vs.length) (hd : ds[r]? = some dr) (hv : vs[r]? = some vr) (rr : Rep H dr vr asr) (nr : asr.Nodup)
    (ho : ∀ j, j ≠ r → ∀ d v, ds[j]? = some d → vs[j]? = some v → ∃ bs, Rep H d v bs ∧ ∀ a ∈ bs, a ∉ asr) :
    Good (fun _ => True) (fun a => a ∈ asr ∨ H a = none) (fun a o => H a = some o ∧ a ∉ asr) (fun i => if i = r then some vr else none) (fun a => if a ∈ asr then some (.slot r) else none) H (startR n r ds) (L2.start NN vs) [] := by
  have hlen : Lens (startE n ds) (L2.start NN vs) := by
    unfold Lens startE L2.start
    rw [List.length_append, List.length_map, List.length_replicate, List.length_append, List.length_map, List.length_replicate, hn, hl]
    omega
  have hst : ∀ (j : Nat) (v : V), vs[j]? = some v → (L2.start NN vs)[j]? = some (some v) := fun j v h => by
    unfold L2.start
    have hv : j < vs.length := (List.getElem?_eq_some_iff.mp h).1
    rw [List.getElem?_append_left (by simpa using hv), List.getElem?_map, h]; rfl
  refine ⟨?_, fun a o ⟨h1, h2⟩ => ⟨h1, if_neg h2⟩, fun a h => ?_, fun p h => ⟨?_, trivial⟩, fun i s h => ?_, fun j t h => by simp at h⟩
  · unfold CB.startR
    rw [hd]
    unfold Lens at *
    simp only [List.length_set]; exact hlen
  · have : a ∈ asr := by
      by_cases z : a ∈ asr
      · exact z
      · exact absurd (if_neg z) h
    exact ⟨.inl this, rr.there a this⟩
  · by_cases z : p ∈ asr
    · exact .inl z
    · refine .inr ?_
      cases e : H p with
      | none => rfl
      | some o => exact absurd ⟨e, z⟩ (h o)
  · unfold CB.startR at h
    rw [hd] at h
    simp only at h
    by_cases hi : i = r
    · subst hi
      have hil : i < (startE n ds).length := by
        have := (List.getElem?_eq_some_iff.mp h).1
        rwa [List.length_set] at this
      rw [List.getElem?_set_self hil] at h
      cases h
      exact ⟨vr, hst i vr hv, if_pos rfl, asr, rr, fun _ _ => trivial, fun a ha => if_pos ha, fun _ => nr⟩
    · rw [List.getElem?_set_ne (Ne.symm hi)] at h
      unfold startE at h
      by_cases hid : i < ds.length
      · rw [List.getElem?_append_left (by simpa using hid), List.getElem?_map] at h
        have e : ds[i]? = some ds[i] := by simp
        rw [e] at h
        cases h
        obtain ⟨v, ev⟩ : ∃ v, vs[i]? = some v := ⟨vs[i]'(by omega), by simp⟩
        obtain ⟨bs, h1, h2⟩ := ho i hi _ v e ev
        exact ⟨v, hst i v ev, bs, h1, fun _ _ => trivial, fun a ha => if_neg (h2 a ha), fun z => nomatch z⟩
      · rw [List.getElem?_append_right (by simpa using hid)] at h
        rw [List.getElem?_replicate] at h
        split at h <;> cases h
        trivial
/-- THE RULE for a def that changes its parameter r -/
theorem fnr_ok {P' : Program} {w : World} {K : PySem.W.Frag} {mg : Str → Option Value} {base : Heap} {x qual : Str} {st : Stmt} {f : Addr} {fd : FuncData} {NN ps : List Str} {k n r : Nat} {m : SM} (F : Fun K x qual st f fd) (S : FnScope NN ps (defScope st)) (hn : NN.length = n) (hk : ps.length ≤ n)
    (hb : ∀ (cdv : Value) (A : Around) (outer : List PySem.Env) (s : Shared) (H : Hp) (E : XK), RoomG k (A.deeper (envOfC qual (defScope st) s.heap.objs.size f cdv)) → SndB (cxOf (L2.CX P' w) P' w K mg base NN qual (defScope st) f cdv A outer s H E) E (defBody st) m) :
    FnOkG P' w K mg base (L2.CX P' w) (k + 1) f fd ps (spR ps.length r mg (fnR n r m)) := by
  refine okXG F S (fun vs H Q E h => h.1) (fun cdv A outer s H vs Q E hr h => ?_)
  obtain ⟨hl, ds, dr, vr, asr, h1, h2, h3, h4, h5, h6, w⟩ := h
  obtain ⟨t, b1, b2⟩ := hb cdv A outer s H E hr
  refine ⟨t, b1, b2 _ _ _ _ _ H _ _ [] _ (Good.startR (NN := NN) hn (by omega) (by omega) h2 h3 h4 h5 h6) ?_⟩
  have fin : ∀ {φ' : Lab} {H' : Hp} {e : Env} {σ' : L2.St} {ts : List Tmp} {k : D → RR}, Good (fun _ => True) (fun a => a ∈ asr ∨ H a = none) (fun a o => H a = some o ∧ a ∉ asr) (fun i => if i = r then some vr else none) φ' H' e σ' ts → RWant asr vr mg H Q E (endR r e k) →
      ∃ d' as', (e[r]? = some (.ref d')) ∧ Rep H' d' vr as' ∧ as'.Nodup ∧ (∀ a ∈ as', φ' a = some (.slot r)) ∧ (∀ a ∈ as', a ∈ asr ∨ H a = none) ∧ (∀ a u, H a = some u → a ∉ asr → H' a = some u) := by
    intro φ' H' e σ' ts k g w
    unfold endR at w
    cases hs : e[r]? with
    | none => rw [hs] at w; exact w.elim
    | some s =>
      rw [hs] at w
      have q := g.slot r s hs
      cases s with
      | emp => exact w.elim
      | pin => exact w.elim
      | val o d => exact w.elim
      | ref d' =>
        obtain ⟨v, e1, e2, as', r1, _, r3, r4⟩ := q
        have e2' : some vr = some v := by simpa using e2
        cases e2'
        exact ⟨d', as', rfl, r1, r4 rfl, r3, fun a ha => (g.own a (by rw [r3 a ha]; exact fun z => nomatch z)).1, fun a u hu hn => (g.fix a u ⟨hu, hn⟩).1⟩
  unfold fnR at w
  cases hm : m (CB.startR n r ds) with
  | no => rw [hm] at w; exact w
  | ex x e =>
    rw [hm] at w
    intro φ' H' σ' c dx g r'
    obtain ⟨d', as', e1, e2, e3, e4, e5, e6⟩ := fin g w
    simp only [endR, e1] at w
    exact w c dx H' as' e6 e2 e3 e5 r'
  | nx e =>
    rw [hm] at w
    intro φ' H' σ' g
    obtain ⟨d', as', e1, e2, e3, e4, e5, e6⟩ := fin g w
    simp only [endR, e1] at w
    exact w .non H' as' [] e6 e2 e3 e5 .non fun _ => ⟨List.nodup_nil, fun a h => nomatch h⟩
  | rt o d e =>
    rw [hm] at w
    intro φ' H' σ' v g
    obtain ⟨d', as', e1, e2, e3, e4, e5, e6⟩ := fin g w
    simp only [endR, e1] at w
    obtain ⟨cs, r1, r2, r3, r4⟩ := g.tmp 0 (o, d, v) (by simp)
    refine w v H' as' cs e6 e2 e3 e5 r1 fun z => ⟨r4 z, fun a ha => ?_⟩
    have z' : o = true := z
    have hl := r3 a ha
    rw [z'] at hl
    refine ⟨fun y => ?_, (g.own a (by rw [hl]; exact fun q => nomatch q)).1⟩
    have := e4 a y
    rw [hl] at this; cases this

/-! the call -/
def othersOk (i r : Nat) : Nat → List U → Bool
  | _, [] => true
  | j, .t _ _ :: us => (j != r) && othersOk i r (j + 1) us
  | j, .v k :: us => (if j == r then k == i else k != i) && othersOk i r (j + 1) us
def callR (r i n : Nat) (F : List D → RR) (ms : List GA) : GE := fun env => match argsG ms env with
  | .ok us env1 => if othersOk i r 0 us && decide (us.length = n) then match valsU env1 us with
    | some ds => match env1[i]? with
      | some s => match s.mine with
        | some d0 => match ds[r]? with
          | some _ => match F ds with
            | .ok o d dr => if o || noL d then .ok true d (env1.set i (s.put dr)) else .no
            | .ex x dr => .ex x (env1.set i (s.put dr))
            | .no => .no
          | none => .no
        | none => .no
      | none => .no
    | none => .no
    else .no
  | .ex x e => .ex x e
  | .no => .no
section
variable {M N : Addr → Prop} {fx fx' : Addr → HO → Prop} {pin : Nat → Option V} {φ φ' : Lab} {H H' : Hp} {env : Env} {σ : L2.St} {ts us : List Tmp}
theorem Vm.len {us : List U} {vs : List V} {ws : List Tmp} (h : Vm σ us vs ws) : us.length = vs.length := by
  induction h with
  | nil => rfl
  | t _ ih => simp [ih]
  | v _ _ ih => simp [ih]
theorem valsU_len {env : Env} : ∀ {us : List U} {ds : List D}, valsU env us = some ds → ds.length = us.length
  | [], ds, h => by cases h; rfl
  | .t o d :: us, ds, h => by
    simp only [valsU] at h
    cases e : valsU env us with
    | none => rw [e] at h; cases h
    | some es => rw [e] at h; cases h; simp [valsU_len e]
  | .v i :: us, ds, h => by
    simp only [valsU] at h
    cases e1 : Env.look env i with
    | none => rw [e1] at h; cases h
    | some d =>
      rw [e1] at h
      simp only at h
      cases e : valsU env us with
      | none => rw [e] at h; cases h
      | some es => rw [e] at h; cases h; simp [valsU_len e]
theorem mine_look {env : Env} {i : Nat} {s : Sl} {d : D} (h : env[i]? = some s) (hm : s.mine = some d) : Env.look env i = some d := by
  unfold Env.look
  rw [h]
  cases s with
  | emp => cases hm
  | pin => cases hm
  | val o d' => cases o <;> cases hm; rfl
  | ref d' => cases hm; rfl
theorem Held.reps_of {l : Lb} {o : Bool} {d : D} {v : V} {asr : List Addr} {i : Nat} (h : Held φ H M l o d v) (hl : l ≠ .slot i) (ha : ∀ a ∈ asr, φ a = some (.slot i)) : ∃ bs, Rep H d v bs ∧ ∀ a ∈ bs, a ∉ asr := by
  obtain ⟨bs, r, _, q, _⟩ := h
  refine ⟨bs, r, fun a hb hs => ?_⟩
  have h1 := q a hb
  rw [ha a hs] at h1
  cases o with
  | true => simp at h1; exact hl h1.symm
  | false => cases h1
theorem slot_other (g : Good M N fx pin φ H env σ ts) {i k : Nat} {d : D} {v : V} {asr : List Addr} (hk : k ≠ i) (hl : Env.look env k = some d) (hv : σ[k]? = some (some v)) (ha : ∀ a ∈ asr, φ a = some (.slot i)) : ∃ bs, Rep H d v bs ∧ ∀ a ∈ bs, a ∉ asr := by
  unfold Env.look at hl
  cases e : env[k]? with
  | none => rw [e] at hl; cases hl
  | some s =>
    rw [e] at hl
    have q := g.slot k s e
    cases s with
    | emp => cases hl
    | pin => cases hl
    | val o d' =>
      cases hl
      obtain ⟨w, h1, h2⟩ := q
      rw [hv] at h1; cases h1
      exact h2.reps_of (fun z => hk (by cases z; rfl)) ha
    | ref d' =>
      cases hl
      obtain ⟨w, h1, _, h2⟩ := q
      rw [hv] at h1; cases h1
      exact h2.reps_of (fun z => hk (by cases z; rfl)) ha
theorem others_reps {i r : Nat} {asr : List Addr} (ha : ∀ a ∈ asr, φ a = some (.slot i)) {us : List U} {vs : List V} {ws : List Tmp} (h : Vm σ us vs ws) : ∀ {ts : List Tmp} {ds : List D} {j0 : Nat}, Good M N fx pin φ H env σ (ts ++ ws) → valsU env us = some ds → othersOk i r j0 us = true →
    (∀ j, j0 + j ≠ r → ∀ d v, ds[j]? = some d → vs[j]? = some v → ∃ bs, Rep H d v bs ∧ ∀ a ∈ bs, a ∉ asr) ∧ (∀ j, j0 + j = r → ∀ d v, ds[j]? = some d → vs[j]? = some v → Env.look env i = some d ∧ σ[i]? = some (some v)) := by
  induction h with
  | nil => intro ts ds j0 g e _; cases e; exact ⟨fun j _ d v h => by simp at h, fun j _ d v h => by simp at h⟩
  | @t o d v us vs ws hv ih =>
    intro ts ds j0 g e ho
    simp only [valsU] at e
    simp only [othersOk, Bool.and_eq_true, bne_iff_ne] at ho
    cases e2 : valsU env us with
    | none => rw [e2] at e; cases e
    | some es =>
      rw [e2] at e; cases e
      obtain ⟨i1, i2⟩ := ih (ts := ts ++ [(o, d, v)]) (by simpa using g) e2 ho.2
      refine ⟨fun j hj d' v' hd hv' => ?_, fun j hj d' v' hd hv' => ?_⟩
      · cases j with
        | zero =>
          simp at hd hv'
          subst hd hv'
          exact (g.tmp ts.length (o, d, v) (by simp)).reps_of (fun z => nomatch z) ha
        | succ j => exact i1 j (by omega) d' v' (by simpa using hd) (by simpa using hv')
      · cases j with
        | zero => exact absurd hj ho.1
        | succ j => exact i2 j (by omega) d' v' (by simpa using hd) (by simpa using hv')
  | @v k v us vs ws hk hv ih =>
    intro ts ds j0 g e ho
    simp only [valsU] at e
    simp only [othersOk, Bool.and_eq_true] at ho
    cases e1 : Env.look env k with
    | none => rw [e1] at e; cases e
    | some d =>
      rw [e1] at e
      simp only at e
      cases e2 : valsU env us with
      | none => rw [e2] at e; cases e
      | some es =>
        rw [e2] at e; cases e
        obtain ⟨i1, i2⟩ := ih g e2 ho.2
        have ho1 := ho.1
        refine ⟨fun j hj d' v' hd hv' => ?_, fun j hj d' v' hd hv' => ?_⟩
        · cases j with
          | zero =>
            simp at hd hv'
            subst hd hv'
            have : ¬ (j0 == r) = true := by simpa using hj
            rw [if_neg this] at ho1
            exact slot_other g (by simpa using ho1) e1 hk ha
          | succ j => exact i1 j (by omega) d' v' (by simpa using hd) (by simpa using hv')
        · cases j with
          | zero =>
            simp at hd hv'
            subst hd hv'
            have : (j0 == r) = true := by simpa using hj
            rw [if_pos this] at ho1
            have : k = i := by simpa using ho1
            subst this
            exact ⟨e1, hk⟩
          | succ j => exact i2 j (by omega) d' v' (by simpa using hd) (by simpa using hv')
/-- behind the call -/
theorem Good.called (g : Good M N fx pin φ H env σ (ts ++ us)) {i : Nat} {s : Sl} {d0 dr d : D} {vr v : V} {asr as' cs : List Addr} (hs : env[i]? = some s) (hm : s.mine = some d0) (hv : σ[i]? = some (some vr)) (hpin : (∃ d, s = .ref d) → pin i = some vr)
    (ha : ∀ a ∈ asr, M a ∧ φ a = some (.slot i)) (fr : ∀ a u, H a = some u → a ∉ asr → H' a = some u) (r' : Rep H' dr vr as') (n' : as'.Nodup) (m' : ∀ a ∈ as', a ∈ asr ∨ H a = none) (r : Rep H' d v cs) (n : cs.Nodup) (m : ∀ a ∈ cs, a ∉ as' ∧ (a ∈ asr ∨ H a = none)) (x : Bool) :
    Good M N fx pin (fun a => if a ∈ as' then some (.slot i) else if a ∈ cs then some (.tmp ts.length) else if φ a = some (.slot i) then none else φ a) H' (env.set i (s.put dr)) σ (ts ++ if x then [(true, d, v)] else []) := by
  have lab : ∀ {a : Addr}, a ∈ as' ∨ a ∈ cs → φ a = some (.slot i) ∨ H a = none := fun {a} z => by
    rcases z with z | z
    · exact (m' a z).imp (fun y => (ha a y).2) id
    · exact (m a z).2.imp (fun y => (ha a y).2) id
  have oth : ∀ {l : Lb} {o : Bool} {d : D} {v : V}, l ≠ .slot i → Held φ H M l o d v → Held (fun a => if a ∈ as' then some (.slot i) else if a ∈ cs then some (.tmp ts.length) else if φ a = some (.slot i) then none else φ a) H' M l o d v := fun {l o d v} hl k => by
    refine k.keep fun bs rb q => ?_
    have nq : ∀ b ∈ bs, φ b ≠ some (.slot i) := fun b hb => by
      rw [q b hb]
      cases o with
      | true => simp [hl]
      | false => simp
    have nn : ∀ b ∈ bs, ¬ (b ∈ as' ∨ b ∈ cs) := fun b hb z => (lab z).elim (nq b hb) (rb.ne b hb)
    refine ⟨rb.keep fun c u hcu hci => fr c u hcu fun z => ?_, fun b hb => ?_⟩
    · rcases hci with y | y
      · exact nq c y (ha c z).2
      · have := (ha c z).2
        obtain ⟨_, vs, hh, hi⟩ := g.own c (by rw [this]; exact fun z => nomatch z)
        rw [hcu] at hh; cases hh; rw [hi] at y; cases y
    · show (if b ∈ as' then some (.slot i) else if b ∈ cs then some (.tmp ts.length) else if φ b = some (.slot i) then none else φ b) = _
      rw [if_neg fun z => nn b hb (.inl z), if_neg fun z => nn b hb (.inr z), if_neg (nq b hb)]
      exact q b hb
  refine ⟨?_, fun c u h => ?_, fun c h => ?_, g.free, fun k s' h => ?_, fun j t h => ?_⟩
  · have := g.len; unfold Lens at *; rw [List.length_set]; exact this
  · obtain ⟨f1, f2⟩ := g.fix c u h
    have nc : ¬ (c ∈ as' ∨ c ∈ cs) := fun z => (lab z).elim (fun y => by rw [f2] at y; cases y) fun y => by rw [f1] at y; cases y
    refine ⟨fr c u f1 (fun z => by rw [(ha c z).2] at f2; cases f2), ?_⟩
    show (if c ∈ as' then some (.slot i) else if c ∈ cs then some (.tmp ts.length) else if φ c = some (.slot i) then none else φ c) = _
    rw [if_neg fun z => nc (.inl z), if_neg fun z => nc (.inr z), f2]; simp
  · by_cases h1 : c ∈ as'
    · refine ⟨?_, r'.there c h1⟩
      rcases m' c h1 with z | z
      · exact (g.own c (by rw [(ha c z).2]; exact fun z => nomatch z)).1
      · exact (g.fresh z).1
    · by_cases h2 : c ∈ cs
      · refine ⟨?_, r.there c h2⟩
        rcases (m c h2).2 with z | z
        · exact (g.own c (by rw [(ha c z).2]; exact fun z => nomatch z)).1
        · exact (g.fresh z).1
      · have h3 : φ c ≠ some (.slot i) := fun z => h (by
          show (if c ∈ as' then some (.slot i) else if c ∈ cs then some (.tmp ts.length) else if φ c = some (.slot i) then none else φ c) = _
          rw [if_neg h1, if_neg h2, if_pos z])
        have h4 : φ c ≠ none := fun z => h (by
          show (if c ∈ as' then some (.slot i) else if c ∈ cs then some (.tmp ts.length) else if φ c = some (.slot i) then none else φ c) = _
          rw [if_neg h1, if_neg h2, if_neg h3, z])
        obtain ⟨q1, vs, q2, q3⟩ := g.own c h4
        exact ⟨q1, vs, fr c _ q2 (fun z => h3 (ha c z).2), q3⟩
  · by_cases hk : k = i
    · subst hk
      have hl : k < env.length := (List.getElem?_eq_some_iff.mp hs).1
      rw [List.getElem?_set_self hl] at h
      cases h
      rw [hv]
      refine SlOk.put hm hpin ⟨as', r', fun a q => ?_, fun a q => if_pos q, fun _ => n'⟩
      exact (m' a q).elim (fun z => (ha a z).1) fun z => (g.fresh z).2
    · rw [List.getElem?_set_ne (Ne.symm hk)] at h
      exact (g.slot k s' h).keep fun o d v q => oth (fun z => hk (by cases z; rfl)) q
  · by_cases hj : j < ts.length
    · rw [List.getElem?_append_left hj] at h
      exact oth (fun z => nomatch z) (g.tmp j t (by rw [List.getElem?_append_left hj]; exact h))
    · cases x with
      | false => simp at h; exact absurd (List.getElem?_eq_some_iff.mp h).1 hj
      | true =>
        have hj' : j = ts.length := by
          have := (List.getElem?_eq_some_iff.mp h).1
          simp at this; omega
        subst hj'
        simp at h
        subst h
        refine ⟨cs, r, fun a q => (m a q).2.elim (fun z => (ha a z).1) fun z => (g.fresh z).2, fun a q => ?_, fun _ => n⟩
        show (if a ∈ as' then some (.slot i) else if a ∈ cs then some (.tmp ts.length) else if φ a = some (.slot i) then none else φ a) = _
        rw [if_neg (m a q).1, if_pos q]; rfl
end
section
variable {X : Cx} {E : XK} {CX : CXT} {k n r i : Nat} {f : Addr} {fd : FuncData} {pn : List Str} {F : List D → RR} {x : Str} {p pos : Pos} {e : Expr} {es : List Expr} {ms : List GA}
theorem snde_callR (G : FnOkG X.prog X.w X.K X.mg X.base CX k f fd pn (spR n r X.mg F)) (hr : RoomG k X.A) (hg : Gl X x) (hm : X.mg x = some (.ref f)) (hk : PySem.W.keepIn X.K (.ref f) = true) (hb : Binds X.K fd pn []) (hx : Passes CX X E) (h : SndAG X E (e :: es) ms)
    (hdb : (x == ("__debug__" : Str)) = false := by decide) (he : starEach (e :: es) X.env = (false, eval e X.env) :: starEach es X.env := by rfl) (hpl : (backTo pos (starEach es X.env)).any (·.1) = false := by rfl) : SndE X E (.Call (.Name x p) (e :: es) [] pos) (callR r i n F ms) := by
  obtain ⟨t, h1, h2⟩ := h
  refine ⟨_, pe_callG G hr hg hm hk hb hx h1 hdb he hpl, fun M N fx pin φ H env σ ts Q g w => h2 M N fx pin φ H env σ ts _ g ?_⟩
  unfold callR at w
  cases ha : argsG ms env with
  | no => rw [ha] at w; exact w
  | ex x e => rw [ha] at w; exact w
  | ok us env1 =>
    rw [ha] at w
    intro φ1 H1 vs ws hvm g1
    simp only at w
    split at w
    · rename_i hoth
      simp only [Bool.and_eq_true, decide_eq_true_eq] at hoth
      split at w
      · rename_i ds hds
        split at w
        · rename_i s hs
          split at w
          · rename_i d0 hd0
            split at w
            · rename_i dr0 hdr
              obtain ⟨vr, q1, q2, q3⟩ := (g1.slot i s hs).mine hd0
              obtain ⟨asr, r1, r2, r3, r4⟩ := q2
              have lab : ∀ a ∈ asr, φ1 a = some (.slot i) := fun a ha => r3 a ha
              obtain ⟨o1, o2⟩ := others_reps lab hvm g1 hds hoth.1
              have hlen : ds.length = vs.length := by rw [valsU_len hds, hvm.len]
              have hrl : r < ds.length := (List.getElem?_eq_some_iff.mp hdr).1
              obtain ⟨vr', hvr'⟩ : ∃ v, vs[r]? = some v := ⟨vs[r]'(by omega), by simp⟩
              obtain ⟨l1, l2⟩ := o2 r (by omega) dr0 vr' hdr hvr'
              rw [q1] at l2; cases l2
              have e0 : d0 = dr0 := by
                have := mine_look hs hd0
                rw [l1] at this; exact (Option.some.inj this).symm
              subst e0
              show spR n r X.mg F (vs ++ []) H1 Q E
              rw [List.append_nil]
              refine ⟨by rw [← hlen, valsU_len hds]; exact hoth.2, ds, d0, vr, asr, by rw [valsU_len hds]; exact hoth.2, hdr, hvr', r1, r4 rfl, fun j hj d v hd hv => o1 j (by omega) d v hd hv, ?_⟩
              have hM : ∀ a ∈ asr, M a ∧ φ1 a = some (.slot i) := fun a ha => ⟨r2 a ha, lab a ha⟩
              cases hF : F ds with
              | no => rw [hF] at w; exact w
              | ex x dr =>
                rw [hF] at w
                intro c dx H' as' fr r' n' m' xr
                have gg := g1.called (d := .non) (v := .non) (cs := []) hs hd0 q1 q3 hM fr r' n' m' .non List.nodup_nil (fun a h => nomatch h) false
                exact w _ H' c dx (by simpa using gg) xr
              | ok o d dr =>
                rw [hF] at w
                simp only at w
                split at w
                · rename_i ho
                  intro v H' as' cs fr r' n' m' rr hc
                  have hc2 : cs.Nodup ∧ ∀ a ∈ cs, a ∉ as' ∧ (a ∈ asr ∨ H1 a = none) := by
                    cases o with
                    | true => exact hc rfl
                    | false =>
                      have := rr.noL (by simpa using ho)
                      subst this
                      exact ⟨List.nodup_nil, fun a h => nomatch h⟩
                  have gg := g1.called hs hd0 q1 q3 hM fr r' n' m' rr hc2.1 hc2.2 true
                  exact w _ H' v gg
                · exact w.elim
            · exact w.elim
          · exact w.elim
        · exact w.elim
      · exact w.elim
    · exact w.elim
/-- a call of a def that changes nothing, of arguments that may -/
def callPG (n : Nat) (F : List D → PR) (ms : List GA) : GE := fun env => match argsG ms env with
  | .ok us env1 => match valsU env1 us with
    | some ds => if decide (us.length = n) then match F ds with
      | .ok f d => if gfl f d then .ok true d env1 else .no
      | .ex x => .ex x env1
      | .no => .no
      else .no
    | none => .no
  | .ex x e => .ex x e
  | .no => .no
theorem snde_callP {Fp : List D → PR} (G : FnOkG X.prog X.w X.K X.mg X.base CX k f fd pn (spF n X.mg Fp)) (hr : RoomG k X.A) (hg : Gl X x) (hm : X.mg x = some (.ref f)) (hk : PySem.W.keepIn X.K (.ref f) = true) (hb : Binds X.K fd pn []) (hx : Passes CX X E) (h : SndAG X E (e :: es) ms)
    (hdb : (x == ("__debug__" : Str)) = false := by decide) (he : starEach (e :: es) X.env = (false, eval e X.env) :: starEach es X.env := by rfl) (hpl : (backTo pos (starEach es X.env)).any (·.1) = false := by rfl) : SndE X E (.Call (.Name x p) (e :: es) [] pos) (callPG n Fp ms) := by
  obtain ⟨t, h1, h2⟩ := h
  refine ⟨_, pe_callG G hr hg hm hk hb hx h1 hdb he hpl, fun M N fx pin φ H env σ ts Q g w => h2 M N fx pin φ H env σ ts _ g ?_⟩
  unfold callPG at w
  cases ha : argsG ms env with
  | no => rw [ha] at w; exact w
  | ex x e => rw [ha] at w; exact w
  | ok us env1 =>
    rw [ha] at w
    intro φ1 H1 vs ws hvm g1
    simp only at w
    split at w
    · rename_i ds hds
      split at w
      · rename_i hn
        obtain ⟨as, ra⟩ := hvm.reps g1 hds
        show spF n X.mg _ (vs ++ []) H1 Q E
        rw [List.append_nil]
        refine ⟨by rw [← ra.length, valsU_len hds]; exact of_decide_eq_true hn, ds, as, ra, ?_⟩
        cases hF : Fp ds with
        | no => rw [hF] at w; exact w
        | ex x => rw [hF] at w; exact fun c dx H' e' r => w φ1 H' c dx (g1.drops.ext e') r
        | ok f d =>
          rw [hF] at w
          simp only at w
          split at w
          · rename_i hg
            exact fun v H' cs e' r' m' n' => w _ H' v (g1.drops.push e' r' (gfl_new hg r' n'))
          · exact w.elim
      · exact w.elim
    · exact w.elim
end
end CB

namespace CB
open PySem L2 PySem.Spec PyProof.Rows
variable [CT]

/-! ### what is known of a def by its name -/
def Cal (P : Program) (w : World) (K : PySem.W.Frag) (mg : Str → Option Value) (base : Heap) (x : Str) (k : Nat) (pn : List Str) (sp : Sp) : Prop :=
  ∃ f fd, FnOkG P w K mg base (L2.CX P w) k f fd pn sp ∧ mg x = some (.ref f) ∧ PySem.W.keepIn K (.ref f) = true ∧ Binds K fd pn []
def Defd (K : PySem.W.Frag) (mg : Str → Option Value) (x : Str) (st : Stmt) : Prop := ∃ f fd, Fun K x x st f fd ∧ mg x = some (.ref f)
section
variable {P : Program} {w : World} {K : PySem.W.Frag} {mg : Str → Option Value} {base : Heap} {x : Str} {st : Stmt} {k n r : Nat} {NN ps : List Str} {m : SM}
theorem Defd.cal (D : Defd K mg x st) (S : FnScope NN ps (defScope st)) (hn : NN.length = n) (hk : ps.length ≤ n)
    (hb : ∀ (f : Addr) (cdv : Value) (A : Around) (outer : List PySem.Env) (s : Shared) (H : Hp) (E : XK), RoomG k (A.deeper (envOfC x (defScope st) s.heap.objs.size f cdv)) → SndB (cxOf (L2.CX P w) P w K mg base NN x (defScope st) f cdv A outer s H E) E (defBody st) m)
    (h : ∀ (kV doc pm : Value) (an : Option Addr) (cdv ct : Value) (us : List Value), us.length = ps.length → bindArgs (PySem.W.fnOf x x (defArgs st) (defBody st) (defScope st) .none kV doc pm an cdv ct) ⟨us, []⟩ = pure (ps.zip us)) :
    Cal P w K mg base x (k + 1) ps (spF ps.length mg (fnP n m)) := by
  obtain ⟨f, fd, F, hm⟩ := D
  exact ⟨f, fd, fn_ok F S hn hk (hb f), hm, F.kp, F.binds h⟩
theorem Defd.calR (D : Defd K mg x st) (r : Nat) (S : FnScope NN ps (defScope st)) (hn : NN.length = n) (hk : ps.length ≤ n)
    (hb : ∀ (f : Addr) (cdv : Value) (A : Around) (outer : List PySem.Env) (s : Shared) (H : Hp) (E : XK), RoomG k (A.deeper (envOfC x (defScope st) s.heap.objs.size f cdv)) → SndB (cxOf (L2.CX P w) P w K mg base NN x (defScope st) f cdv A outer s H E) E (defBody st) m)
    (h : ∀ (kV doc pm : Value) (an : Option Addr) (cdv ct : Value) (us : List Value), us.length = ps.length → bindArgs (PySem.W.fnOf x x (defArgs st) (defBody st) (defScope st) .none kV doc pm an cdv ct) ⟨us, []⟩ = pure (ps.zip us)) :
    Cal P w K mg base x (k + 1) ps (spR ps.length r mg (fnR n r m)) := by
  obtain ⟨f, fd, F, hm⟩ := D
  exact ⟨f, fd, fnr_ok F S hn hk (hb f), hm, F.kp, F.binds h⟩
end
section
variable {X : Cx} {E : XK} {k j n r i : Nat} {pn : List Str} {x : Str} {p pos : Pos} {e : Expr} {es : List Expr} {ps : List P} {ms : List GA}
theorem sndc {F : List D → PR} (C : Cal X.prog X.w X.K X.mg X.base x k pn (spF n X.mg F)) (hr : RoomG j X.A) (hj : k ≤ j) (hx : Passes (L2.CX X.prog X.w) X E) (hg : Gl X x) (h : SndA X E (e :: es) ps) (hn : ps.length = n := by rfl)
    (hdb : (x == ("__debug__" : Str)) = false := by decide) (he : starEach (e :: es) X.env = (false, eval e X.env) :: starEach es X.env := by rfl) (hpl : (backTo pos (starEach es X.env)).any (·.1) = false := by rfl) : SndP X E (.Call (.Name x p) (e :: es) [] pos) (callP F ps) := by
  obtain ⟨f, fd, h1, h2, h3, h4⟩ := C
  exact snd_call h1 (hr.mono hj) hg h2 h3 h4 hx h hn hdb he hpl
theorem sndc0 {F : List D → PR} (C : Cal X.prog X.w X.K X.mg X.base x k pn (spF 0 X.mg F)) (hr : RoomG j X.A) (hj : k ≤ j) (hx : Passes (L2.CX X.prog X.w) X E) (hg : Gl X x) (hdb : (x == ("__debug__" : Str)) = false := by decide) : SndP X E (.Call (.Name x p) [] [] pos) (callP F []) := by
  obtain ⟨f, fd, h1, h2, h3, h4⟩ := C
  exact snd_call0 h1 (hr.mono hj) hg h2 h3 h4 hx hdb
theorem sndeR {F : List D → RR} (C : Cal X.prog X.w X.K X.mg X.base x k pn (spR n r X.mg F)) (hr : RoomG j X.A) (hj : k ≤ j) (hx : Passes (L2.CX X.prog X.w) X E) (hg : Gl X x) (h : SndAG X E (e :: es) ms)
    (hdb : (x == ("__debug__" : Str)) = false := by decide) (he : starEach (e :: es) X.env = (false, eval e X.env) :: starEach es X.env := by rfl) (hpl : (backTo pos (starEach es X.env)).any (·.1) = false := by rfl) : SndE X E (.Call (.Name x p) (e :: es) [] pos) (callR r i n F ms) := by
  obtain ⟨f, fd, h1, h2, h3, h4⟩ := C
  exact snde_callR h1 (hr.mono hj) hg h2 h3 h4 hx h hdb he hpl
theorem sndeP {F : List D → PR} (C : Cal X.prog X.w X.K X.mg X.base x k pn (spF n X.mg F)) (hr : RoomG j X.A) (hj : k ≤ j) (hx : Passes (L2.CX X.prog X.w) X E) (hg : Gl X x) (h : SndAG X E (e :: es) ms)
    (hdb : (x == ("__debug__" : Str)) = false := by decide) (he : starEach (e :: es) X.env = (false, eval e X.env) :: starEach es X.env := by rfl) (hpl : (backTo pos (starEach es X.env)).any (·.1) = false := by rfl) : SndE X E (.Call (.Name x p) (e :: es) [] pos) (callPG n F ms) := by
  obtain ⟨f, fd, h1, h2, h3, h4⟩ := C
  exact snde_callP h1 (hr.mono hj) hg h2 h3 h4 hx h hdb he hpl
end
theorem bt_len : bootBuiltins "len" = some (.builtin "len") := by decide +kernel
theorem bt_sorted : bootBuiltins "sorted" = some (.builtin "sorted") := by decide +kernel
theorem bt_all : bootBuiltins "all" = some (.builtin "all") := by decide +kernel
theorem bt_any : bootBuiltins "any" = some (.builtin "any") := by decide +kernel
theorem bt_abs : bootBuiltins "abs" = some (.builtin "abs") := by decide +kernel
theorem bt_max : bootBuiltins "max" = some (.builtin "max") := by decide +kernel
theorem bt_min : bootBuiltins "min" = some (.builtin "min") := by decide +kernel
theorem bt_sum : bootBuiltins "sum" = some (.builtin "sum") := by decide +kernel
theorem bt_list : bootBuiltins "list" = some (.type "list") := by decide +kernel
theorem bt_tuple : bootBuiltins "tuple" = some (.type "tuple") := by decide +kernel
theorem bt_int : bootBuiltins "int" = some (.type "int") := by decide +kernel
theorem bt_bool : bootBuiltins "bool" = some (.type "bool") := by decide +kernel
theorem bt_str : bootBuiltins "str" = some (.type "str") := by decide +kernel
theorem bt_dict : bootBuiltins "dict" = some (.type "dict") := by decide +kernel
section
variable {X : Cx} {E : XK}
theorem sndgi {x : Str} {i : Int} {pos : Pos} (hm : ∃ t, X.mg x = some (.int i t)) (hg : Gl X x) (hd : (x == ("__debug__" : Str)) = false := by decide) : SndP X E (.Name x pos) (cst (.int i)) := let ⟨_, h⟩ := hm; snd_gint hg h hd
theorem sndgs {x : Str} {i : Str} {pos : Pos} (hm : ∃ t, X.mg x = some (.str i t)) (hg : Gl X x) (hd : (x == ("__debug__" : Str)) = false := by decide) : SndP X E (.Name x pos) (cst (.str i)) := let ⟨_, h⟩ := hm; snd_gstr hg h hd
end
/-! ### facts of scopes, by the kernel -/
section
variable {X : Cx} {s : Shared} {H : Hp} {scope : Scope} {cl : List (Str × Addr)} {C : Addr} {env : PySem.Env} {fp : List Addr} {x : Str}
theorem look_relabel {env : PySem.Env} {k : NameKind} {x : Str} : ∀ {names : List (Str × NameKind)}, names.lookup x = some k →
    (names.map fun (n, k) => if (k == NameKind.free && env.scope.kind == .function && env.kindOf n == some .cell) then (n, NameKind.cell) else (n, k)).lookup x = some (if (k == NameKind.free && env.scope.kind == .function && env.kindOf x == some .cell) then .cell else k)
  | [], h => by cases h
  | (n, k') :: r, h => by
    have ih := @look_relabel env k x r
    simp only [List.lookup] at h
    rw [List.map_cons]
    cases e : (x == n) with
    | true =>
      rw [e] at h
      cases h
      have e' : x = n := by simpa using e
      subst e'
      simp only
      split <;> simp [List.lookup]
    | false =>
      rw [e] at h
      simp only
      split <;> simp only [List.lookup, e] <;> exact ih h
theorem rel_of {k : NameKind} (h : scope.names.lookup x = some k) (hk : (k == NameKind.free) = false) : (X.blk s H scope (compEnvC scope cl C env) fp).env.scope.names.lookup x = some k := by
  have := look_relabel (env := env) h
  rw [hk] at this
  exact this
theorem visF (h : scope.names.lookup x = some .free) : Vis (X.blk s H scope (compEnvC scope cl C env) fp).env.scope x := by
  have := look_relabel (env := env) h
  split at this
  · exact .inr (.inl this)
  · exact .inr (.inr this)
theorem visL (h : scope.names.lookup x = some .local) : Vis (X.blk s H scope (compEnvC scope cl C env) fp).env.scope x := .inl (rel_of h rfl)
theorem visC (h : scope.names.lookup x = some .cell) : Vis (X.blk s H scope (compEnvC scope cl C env) fp).env.scope x := .inr (.inl (rel_of h rfl))
theorem locL (h : scope.names.lookup x = some .local) : Loc (X.blk s H scope (compEnvC scope cl C env) fp).env.scope x := .inl (rel_of h rfl)
theorem locC (h : scope.names.lookup x = some .cell) : Loc (X.blk s H scope (compEnvC scope cl C env) fp).env.scope x := .inr (rel_of h rfl)
theorem glB (h : scope.names.lookup x = some .globalImplicit) : Gl (X.blk s H scope (compEnvC scope cl C env) fp) x := rel_of (X := X) (s := s) (H := H) (cl := cl) (C := C) (env := env) (fp := fp) h rfl
theorem fnL (h : scope.names.lookup x = some .local) : (X.blk s H scope (compEnvC scope cl C env) fp).fn x = true ∨ (X.blk s H scope (compEnvC scope cl C env) fp).env.scope.names.lookup x = some .local := .inr (rel_of h rfl)
theorem fnC (h : scope.names.lookup x = some .cell) : (X.blk s H scope (compEnvC scope cl C env) fp).fn x = true ∨ (X.blk s H scope (compEnvC scope cl C env) fp).env.scope.names.lookup x = some .local := .inl (by show (scope.names.lookup x == some .cell) = true; rw [h]; rfl)
end
def blkB (N : List Str) (sc scope : Scope) (own : List (Str × Nat)) : Bool :=
  (match scope.kind with | .function => true | _ => false) && scope.names.all (fun y => decide (scope.names.lookup y.1 = some y.2)) && own.all (fun p => decide (N[p.2]? = some p.1)) &&
  scope.names.all (fun y => (match y.2 with
    | .free => (match sc.names.lookup y.1 with
      | some .cell => true
      | some .free => true
      | _ => false)
    | .local => (own.any fun p => p.1 == y.1) || !(N.any fun z => z == y.1)
    | .cell => (own.any fun p => p.1 == y.1) || !(N.any fun z => z == y.1)
    | _ => true))
theorem blk_of (N : List Str) (sc : Scope) {scope : Scope} {own : List (Str × Nat)} (h : blkB N sc scope own = true) : BlkOk N sc scope own := by
  unfold blkB at h
  simp only [Bool.and_eq_true, List.all_eq_true] at h
  obtain ⟨⟨⟨h1, h2⟩, h3⟩, h4⟩ := h
  have ow : ∀ y : Str, ((own.any fun p => p.1 == y) || !(N.any fun z => z == y)) = true → y ∈ own.map (·.1) ∨ y ∉ N := fun y h => by
    simp only [Bool.or_eq_true, List.any_eq_true, Bool.not_eq_true', beq_iff_eq] at h
    rcases h with ⟨p, hp, e⟩ | h
    · exact .inl (List.mem_map.mpr ⟨p, hp, e⟩)
    · refine .inr fun hy => ?_
      have : (N.any fun z => z == y) = true := List.any_eq_true.mpr ⟨y, hy, by simp⟩
      rw [this] at h; cases h
  refine ⟨?_, fun y hy => of_decide_eq_true (h2 y hy), fun p hp => of_decide_eq_true (h3 p hp), fun y hy e => ?_, fun y hy e => ?_⟩
  · cases hk : scope.kind <;> rw [hk] at h1 <;> first | rfl | cases h1
  · have := h4 y hy
    rw [e] at this
    simp only at this
    split at this
    · rename_i q; exact .inl q
    · rename_i q; exact .inr q
    · cases this
  · have := h4 y hy
    rcases e with e | e <;> rw [e] at this <;> exact ow _ this
/-! ### the end: the law at the script -/
def noList (K : PySem.W.Frag) : Bool := K.all fun p => !(p.2.cls == .type "list")
omit [CT] in
theorem noList_look {K : PySem.W.Frag} (h : noList K = true) {a : Addr} {o : Obj} (e : K.lookup a = some o) : o.cls ≠ .type "list" := fun z => by
  have m : (a, o) ∈ K := by
    clear h
    induction K with
    | nil => cases e
    | cons p K ih =>
      obtain ⟨b, u⟩ := p
      simp only [List.lookup] at e
      split at e
      · rename_i q
        have : a = b := by simpa using q
        cases e; subst this; exact List.mem_cons_self
      · exact List.mem_cons_of_mem _ (ih e)
  have := List.all_eq_true.mp h _ m
  simp only [z, Bool.not_eq_true'] at this
  have q : ((Value.type "list" : Value) == .type "list") = true := by simp
  rw [q] at this; cases this
def spLaw : Sp := fun vs H Q _ => ∃ (a : Addr) (ns : List Int), vs = [.ref a] ∧ ns.length ≤ 63 ∧ (∀ z ∈ ns, Builtin.Int.intBits z ≤ 1048576) ∧ (∃ o, H a = some (.frz o (.lst (ns.map V.int)))) ∧ ∀ H', Q (.bl true) H'
omit [CT] in
theorem start_rep {K : PySem.W.Frag} {H : Hp} {a : Addr} {ns : List Int} (nl : noList K = true) (hO : Only H) (hS : SqL K H a (ns.map V.int)) : ∃ o, H a = some (.frz o (.lst (ns.map V.int))) := by
  rcases hS with h | ⟨o, its, n, h1, h2, _⟩
  · rcases h with h | ⟨o, h⟩
    · rcases hO a with z | ⟨o, xs, z⟩ <;> rw [h] at z <;> cases z
    · exact ⟨o, h⟩
  · exact absurd h2 (noList_look nl h1)
theorem law_F {P : Program} {w : World} {K : PySem.W.Frag} {mg : Str → Option Value} {x : Str} {st : Stmt} {fa : Addr} {k : Nat} {F : List D → PR} (D' : Defd K mg "law" st) (hfa : mg "law" = some (.ref fa))
    (hbind : ∀ (kV doc pm : Value) (an : Option Addr) (cdv ct : Value) (s : Shared) (v : Value), BindsTo s (PySem.W.fnOf "law" "law" (defArgs st) (defBody st) (defScope st) .none kV doc pm an cdv ct) ⟨[v], []⟩ [(x, v)])
    (G : ∀ (base : Heap) (f : Addr) (fd : FuncData), Fun K "law" "law" st f fd → FnOkG P w K mg base (L2.CX P w) k f fd [x] (spF 1 mg F))
    (hlaw : ∀ ns : List Int, ns.length ≤ 63 → (∀ z ∈ ns, Builtin.Int.intBits z ≤ 1048576) → ∃ f, F [.frz (ns.map .int)] = .ok f (.bl true)) :
    ∃ fd : FuncData, (∀ (s : Shared) (v : Value), BindsTo s fd ⟨[v], []⟩ [(x, v)]) ∧ ∀ base : Heap, K.In base → base.Ns mainGlobals mg → FnOkG P w K mg base (L2.CX P w) k fa fd [x] spLaw := by
  obtain ⟨f, fd, hF, hm⟩ := D'
  rw [hfa] at hm
  cases hm
  refine ⟨fd, ?_, fun base _ _ => (G base fa fd hF).imp fun vs H Q E h => ?_⟩
  · obtain ⟨oc, od, kV, doc, pm, an, cdv, ct, osl, rfl, lk, hcd⟩ := hF.ex
    exact fun s v => hbind kV doc pm an cdv ct s v
  · obtain ⟨a, ns, rfl, h1, h2, ⟨o, h3⟩, h4⟩ := h
    obtain ⟨b, e⟩ := hlaw ns h1 h2
    refine ⟨rfl, [.frz (ns.map .int)], [], .cons (as := []) (bs := []) (.frz h3 (reps_ints H ns)) .nil, ?_⟩
    rw [e]
    intro v H' as _ r _ _
    cases r
    exact h4 H'
omit [CT] in
/-- the law's call, its script behind the top -/
theorem law_callG {P' : Program} {w : World} {K : PySem.W.Frag} {mg mb : Str → Option Value} {CX : CXT} {k : Nat} {fa a : Addr} {fd : FuncData} {x : Str} {sp : Sp} {s1 : Shared} {vs : List Value} {ns : List Int}
    (kin : K.In s1.heap) (g1 : s1.heap.Ns mainGlobals mg) (g2 : s1.heap.Ns builtinsNs mb) (g3 : ∀ y : Str, y ≠ "__name__" → mb y = bootBuiltins y) (lim : s1.heap.NoLimit) (hgn : s1.gens = #[])
    (ha : s1.heap.get? a = some { cls := .type "list", data := .seq vs.toArray }) (hi : IntsAre vs ns) (hl : ns.length ≤ sizeLine) (hr : RoomG k callerA) (nl : noList K = true)
    (F : ∀ base : Heap, K.In base → base.Ns mainGlobals mg → FnOkG P' w K mg base CX k fa fd [x] sp) (hbind : ∀ (s : Shared) (u : Value), BindsTo s fd ⟨[u], []⟩ [(x, u)])
    (hsp : ∀ H : Hp, (∃ o, H a = some (.frz o (.lst (ns.map V.int)))) → sp [.ref a] H (fun v _ => v = .bl true) fun _ _ _ => False)
    (hCX : ∀ H z s', CX [] H s1 (fun _ _ _ => False) z s' → False) :
    codeAny (model P' w) callerA (.call (.ref fa) ⟨[.ref a], []⟩) (fun r s' => r = .ok (.ret (.bool true)) ∧ OldK s1.heap s'.heap ∧ s'.os = s1.os ∧ AllBare s'.gens) s1 := by
  let O : Obj := { cls := .type "list", data := .seq vs.toArray }
  let H : Hp := fun b => if b = a then some (.frz O (.lst (ns.map V.int))) else none
  have Ha : H a = some (.frz O (.lst (ns.map V.int))) := if_pos rfl
  have Hn : ∀ {b : Addr}, b ≠ a → H b = none := fun q => if_neg q
  have free : ∀ {b : Addr} {o : Obj}, s1.heap.get? b = some o → o ≠ O → H b = none := fun {b o} q ne => by
    by_cases hb : b = a
    · subst hb; rw [ha] at q; exact absurd (Option.some.inj q).symm ne
    · exact Hn hb
  have inb : ∀ {b : Addr} {o : Obj}, s1.heap.get? b = some o → o ≠ O → (hidT s1.heap H).get? b = some o := fun q ne => hidT_get q (free q ne)
  have nsb : ∀ {b : Addr} {m : Str → Option Value}, s1.heap.Ns b m → (hidT s1.heap H).Ns b m := fun ⟨o, es, ep, q, dd, z⟩ => ⟨o, es, ep, inb q (fun y => by rw [y] at dd; cases dd), dd, z⟩
  have kb : K.In (hidT s1.heap H) := fun b o q => inb (kin b o q) fun y => noList_look nl q (by rw [y])
  have hok : HOk P' w H s1.heap := fun b u q => by
    by_cases hb : b = a
    · subst hb
      rw [Ha] at q
      cases q
      exact ⟨ha, by rw [List.length_map]; exact hl, vs, _, vals_ints hi, ha⟩
    · rw [Hn hb] at q; cases q
  have md : Mod K mg (hidT s1.heap H) := ⟨kb, nsb g1, ⟨mb, nsb g2, g3⟩, let ⟨mc, z1, z2⟩ := lim; ⟨mc, nsb z1, z2⟩⟩
  have e0 : Env0 P' w K mg (hidT s1.heap H) callerA [] s1 H := ⟨rfl, md, fun _ _ q => of_hidT q, Nat.le_of_eq (hidT_size _ _), trivial, (fun b q => nomatch (show b ∈ ([] : List Addr) from q)), hok, .of_eq hgn⟩
  refine codeAny_mono ((F _ kb (nsb g1)).run (ws := [.ref a]) (xs := [.ref a]) hr e0 (hbind s1 (.ref a)) (.cons rfl .nil) (hsp H ⟨O, Ha⟩)) fun r s' q => ?_
  rcases r with z | fl
  · exact (hCX H z s' q).elim
  cases fl with
  | ret u =>
    obtain ⟨v, H', os, bare, un, hok', rv, rfl⟩ := q
    cases (show u = Value.bool true from rv)
    refine ⟨rfl, OldK.of_keep fun b o q => ?_, os, bare⟩
    by_cases hb : b = a
    · subst hb
      obtain ⟨q2, _⟩ := hok' _ _ (un.frzs _ _ _ Ha)
      rw [ha] at q; cases q
      exact q2
    · exact un.keep b o q (Hn hb) (fun z => nomatch (show b ∈ ([] : List Addr) from z)) (by simp)
  | next => exact q.elim
  | brk => exact q.elim
  | cont => exact q.elim
omit [CT] in
theorem law_walk {l : PySem.W.OpenLaw} {q : Program} {loose : List Str} {XP : (Str → Option Value) → Heap → Prop} {YP : World → Heap → Prop} {d : DefRec} {K : Params → PySem.W.Frag} {k : Nat} {x : Str} (hn : l.most = some 63) (hdf : d.params.defaults = []) (hr : Room k callerA)
    (hY : ∀ (w : World) (h : Heap), YP w h → (K w.params).In h) (nl : ∀ p, noList (K p) = true)
    (F : ∀ (w : World) (mg : Str → Option Value) (fa : Addr) (h : Heap), (K w.params).In h → h.Ns mainGlobals mg → mg d.name = some (.ref fa) →
      ∃ fd : FuncData, (∀ (s : Shared) (u : Value), BindsTo s fd ⟨[u], []⟩ [(x, u)]) ∧ ∀ base : Heap, (K w.params).In base → base.Ns mainGlobals mg → FnOkG l.prog w (K w.params) mg base (L2.CX l.prog w) k fa fd [x] spLaw) :
    PySem.W.WalkO q loose XP YP l.row.toRowW d [] (fun f vs => PySem.call f vs) := by
  refine Att.attach_callB hn hdf fun w s0 s1 mg mb fa o pm cd doc a vs ns G Y ho hd hcd hmg hobj hints hlen hbits hg => ?_
  obtain ⟨fd, hb, hF⟩ := F w mg fa _ (hY w _ Y) G.T.g hmg
  exact law_callG (hY w _ Y) G.T.g G.T.b G.T.builtins G.T.nolimit hg hobj hints (Nat.le_trans hlen (by decide)) ⟨hr, rfl⟩ (nl w.params) hF hb (fun H hS => ⟨a, ns, rfl, hlen, hbits, hS, fun _ => rfl⟩) fun H z s' q => by
    obtain ⟨_, _, _, _, _, _, _, _, _, _, _, _, y⟩ := q
    exact y

end CB

namespace CB
open PySem L2 PySem.Spec PyProof.Rows
variable [CT]

/-! ### a statement that is looked at with few slots in sight -/
def hb (ks ws : List Nat) (i : Nat) : Bool := !(ks.contains i) && !(ws.contains i)
def mask1 (ks ws : List Nat) (i : Nat) (s : Sl) : Sl := if ks.contains i then s else if ws.contains i then .emp else match s with
  | .emp => .emp
  | _ => .pin
def mask (ks ws : List Nat) : Nat → Env → Env
  | _, [] => []
  | i, s :: env => mask1 ks ws i s :: mask ks ws (i + 1) env
def un1 (ks ws : List Nat) (i : Nat) (s t : Sl) : Option Sl := if ks.contains i || ws.contains i then some t else match s with
  | .emp => some .emp
  | s => match t with
    | .pin => some s
    | _ => none
def unmask (ks ws : List Nat) : Nat → Env → Env → Option Env
  | _, [], [] => some []
  | i, s :: old, t :: new => match un1 ks ws i s t with
    | some u => match unmask ks ws (i + 1) old new with
      | some r => some (u :: r)
      | none => none
    | none => none
  | _, _, _ => none
def scopeS (ks ws : List Nat) (m : SM) : SM := fun env => match m (mask ks ws 0 env) with
  | .nx e => match unmask ks ws 0 env e with
    | some r => .nx r
    | none => .no
  | .rt o d e => match unmask ks ws 0 env e with
    | some r => .rt o d r
    | none => .no
  | .ex x e => match unmask ks ws 0 env e with
    | some r => .ex x r
    | none => .no
  | .no => .no
theorem mask_len (ks ws : List Nat) : ∀ (n : Nat) (env : Env), (mask ks ws n env).length = env.length
  | _, [] => rfl
  | n, s :: env => by simp only [mask, List.length_cons, mask_len ks ws (n + 1) env]
theorem mask_get (ks ws : List Nat) : ∀ (n : Nat) (env : Env) (i : Nat), (mask ks ws n env)[i]? = (env[i]?).map (mask1 ks ws (n + i))
  | _, [], i => by simp [mask]
  | n, s :: env, 0 => by simp [mask]
  | n, s :: env, i + 1 => by
    simp only [mask, List.getElem?_cons_succ, mask_get ks ws (n + 1) env i]
    rw [show n + 1 + i = n + (i + 1) by omega]
theorem unmask_ok (ks ws : List Nat) : ∀ {n : Nat} {old new r : Env}, unmask ks ws n old new = some r → r.length = new.length ∧ r.length = old.length ∧ ∀ i u, r[i]? = some u → ∃ s t, old[i]? = some s ∧ new[i]? = some t ∧ un1 ks ws (n + i) s t = some u
  | n, [], [], r, h => by cases h; exact ⟨rfl, rfl, fun i u h => by simp at h⟩
  | n, s :: old, t :: new, r, h => by
    simp only [unmask] at h
    cases h1 : un1 ks ws n s t with
    | none => rw [h1] at h; cases h
    | some u =>
      rw [h1] at h
      simp only at h
      cases h2 : unmask ks ws (n + 1) old new with
      | none => rw [h2] at h; cases h
      | some r' =>
        rw [h2] at h
        cases h
        obtain ⟨a, b, c⟩ := unmask_ok ks ws h2
        refine ⟨by simp [a], by simp [b], fun i v hv => ?_⟩
        cases i with
        | zero => simp at hv; subst hv; exact ⟨s, t, rfl, rfl, h1⟩
        | succ i =>
          obtain ⟨s', t', e1, e2, e3⟩ := c i v (by simpa using hv)
          exact ⟨s', t', by simpa using e1, by simpa using e2, by rw [show n + (i + 1) = n + 1 + i by omega]; exact e3⟩
  | n, [], _ :: _, r, h => by simp [unmask] at h
  | n, _ :: _, [], r, h => by simp [unmask] at h
section
variable {M N : Addr → Prop} {fx : Addr → HO → Prop} {pin : Nat → Option V} {φ : Lab} {H : Hp} {env : Env} {σ : L2.St} {ts : List Tmp} {ks ws : List Nat}
def hA (ks ws : List Nat) (φ : Lab) (a : Addr) : Bool := match φ a with
  | some (.slot i) => hb ks ws i
  | _ => false
def hφ (ks ws : List Nat) (φ : Lab) : Lab := fun a => if hA ks ws φ a then none else φ a
def hM (ks ws : List Nat) (φ : Lab) (M : Addr → Prop) : Addr → Prop := fun a => M a ∧ hA ks ws φ a = false
/-- nodes of what is out of sight -/
def hS (ks ws : List Nat) (H : Hp) (env : Env) (σ : L2.St) (a : Addr) : Prop := ∃ i s d v as, hb ks ws i = true ∧ env[i]? = some s ∧ s.get = some d ∧ σ[i]? = some (some v) ∧ Rep H d v as ∧ a ∈ as
def hF (ks ws : List Nat) (fx : Addr → HO → Prop) (φ : Lab) (H : Hp) (env : Env) (σ : L2.St) : Addr → HO → Prop := fun a o => fx a o ∨ (H a = some o ∧ (Imm o = true ∨ hS ks ws H env σ a ∨ hA ks ws φ a = true))
def hP (ks ws : List Nat) (pin : Nat → Option V) (σ : L2.St) : Nat → Option V := fun i => if hb ks ws i then (match σ[i]? with
  | some (some v) => some v
  | _ => none) else pin i
theorem hA_slot {a : Addr} {i : Nat} (h : φ a = some (.slot i)) : hA ks ws φ a = hb ks ws i := by unfold hA; rw [h]
theorem hA_none {a : Addr} (h : φ a = none) : hA ks ws φ a = false := by unfold hA; rw [h]
theorem hA_tmp {a : Addr} {j : Nat} (h : φ a = some (.tmp j)) : hA ks ws φ a = false := by unfold hA; rw [h]
theorem dO_inj {a : Addr} {o o' : Obj} {es : Array DictEntry} {ep : Nat} (hd : o.data = .dict es ep) (e : dO a o = dO a o') : o = o' := by
  have e : (fun h : Heap => h.get? a = some o) = fun h => h.get? a = some o' := by unfold dO at e; injection e
  have e2 := congrFun e { objs := Array.replicate (a + 1) o }
  have h1 : Heap.get? { objs := Array.replicate (a + 1) o } a = some o := by
    unfold Heap.get?
    rw [show (Array.replicate (a + 1) o)[a]? = some o by simp]
    obtain ⟨c, dd, da, sl⟩ := o
    cases hd
    rfl
  have h2 : Heap.get? { objs := Array.replicate (a + 1) o } a = some o' := by
    have := cast e2 h1
    exact this
  rw [h1] at h2
  exact Option.some.inj h2
theorem relV_det {v v1 : V} {u : Value} (h : L2.RelV v u) (h1 : L2.RelV v1 u) : v = v1 := by
  cases v <;> cases v1 <;> simp only [L2.RelV] at h h1 <;> first
    | rfl
    | (subst h; cases h1; done)
    | (subst h; cases h1; rfl)
    | (subst h; obtain ⟨t, e⟩ := h1; cases e; done)
    | (obtain ⟨t, e⟩ := h; subst e; cases h1; done)
    | (obtain ⟨t, e⟩ := h; obtain ⟨t', e'⟩ := h1; subst e; cases e'; done)
    | (obtain ⟨t, e⟩ := h; obtain ⟨t', e'⟩ := h1; subst e; cases e'; rfl)
theorem vals_det : ∀ {vs vs' : List V} {us : List Value}, L2.Vals vs us → L2.Vals vs' us → vs = vs'
  | _, _, _, .nil, .nil => rfl
  | _, _, _, .cons r t, .cons r' t' => by rw [relV_det r r', vals_det t t']
theorem ents_vals {xs ys : Ents} (e : xs.map entI = ys.map entI) : xs.map (·.2.2) = ys.map (·.2.2) := by
  have := congrArg (List.map fun (en : DictEntry) => en.val) e
  simpa [List.map_map, Function.comp_def, entI] using this
mutual
theorem Rep.det {H : Hp} : ∀ {d : D} {v : V} {as bs : List Addr}, Rep H d v as → Rep H d v bs → as = bs
  | _, _, _, _, .non, h => by cases h; rfl
  | _, _, _, _, .bl _, h => by cases h; rfl
  | _, _, _, _, .int _, h => by cases h; rfl
  | _, _, _, _, .str _, h => by cases h; rfl
  | _, _, _, _, .tup ha hd s, h => by
    cases h with
    | tup ha' hd' s' => rw [ha] at ha'; cases ha'; exact Reps.det s s'
  | _, _, _, _, .lst ha s, h => by
    cases h with
    | lst ha' s' => rw [ha] at ha'; cases ha'; rw [Reps.det s s']
  | _, _, _, _, .tp0 ha s, h => by
    cases h with
    | tp0 ha' s' => rw [ha] at ha'; cases ha'; exact Reps.det s s'
  | _, _, _, _, .frz ha s, h => by cases h; rfl
  | _, _, _, _, .dic ha i v s, h => by
    generalize hD : D.dic _ _ = dd at h
    cases h with
    | dic ha' i' v' s' =>
      injection hD with hk hs
      subst hs
      rw [ha] at ha'
      have e := dO_inj i.dat (Option.some.inj ha')
      subst e
      have e2 := i.dat.symm.trans i'.dat
      injection e2 with e2 _
      subst e2
      have e3 := ents_vals (i.ents.symm.trans i'.ents)
      rw [← e3] at v'
      have e4 := vals_det v v'
      subst e4
      rw [Reps.det s s']
    | _ => cases hD
  | _, _, _, _, .exc _ _ _ _ _, h => (Rep.noL h rfl).symm
  | _, _, _, _, .excF _ _ _ _ _ _ _ _, h => (Rep.noL h rfl).symm
theorem Reps.det {H : Hp} : ∀ {d : List D} {v : List V} {as bs : List Addr}, Reps H d v as → Reps H d v bs → as = bs
  | _, _, _, _, .nil, h => by cases h; rfl
  | _, _, _, _, .cons r rs, h => by
    cases h with
    | cons r' rs' => rw [Rep.det r r', Reps.det rs rs']
end
theorem Rep.mem_of {H : Hp} {d : D} {v : V} {as bs : List Addr} {a : Addr} (h : Rep H d v as) (h' : Rep H d v bs) (m : a ∈ as) : a ∈ bs := h.det h' ▸ m
theorem Held.seen {l : Lb} {o : Bool} {d : D} {v : V} (h : Held φ H M l o d v) (hl : ∀ i, l = .slot i → hb ks ws i = false) : Held (hφ ks ws φ) H (hM ks ws φ M) l o d v := by
  obtain ⟨as, r, m, q, n⟩ := h
  have key : ∀ a ∈ as, hA ks ws φ a = false := fun a ha => by
    have := q a ha
    cases o with
    | false => exact hA_none this
    | true =>
      have this : φ a = some l := this
      cases l with
      | slot i => rw [hA_slot this]; exact hl i rfl
      | tmp j => exact hA_tmp this
  exact ⟨as, r, fun a ha => ⟨m a ha, key a ha⟩, fun a ha => by unfold hφ; rw [key a ha]; exact q a ha, n⟩
theorem Good.masked (g : Good M N fx pin φ H env σ ts) : Good (hM ks ws φ M) N (hF ks ws fx φ H env σ) (hP ks ws pin σ) (hφ ks ws φ) H (mask ks ws 0 env) σ ts := by
  have hid_own : ∀ a, hA ks ws φ a = true → ∃ vs, H a = some vs := fun a h => by
    obtain ⟨_, vs, hv, _⟩ := g.own a (by intro z; rw [hA_none z] at h; cases h)
    exact ⟨vs, hv⟩
  refine ⟨?_, fun a o h => ?_, fun a h => ?_, fun p h => ?_, fun i s' h => ?_, fun j t h => (g.tmp j t h).seen fun i z => nomatch z⟩
  · have := g.len; unfold Lens at *; rw [mask_len]; exact this
  · rcases h with h | ⟨h, hh⟩
    · obtain ⟨a1, a2⟩ := g.fix a o h
      exact ⟨a1, by unfold hφ; rw [hA_none a2]; exact a2⟩
    · refine ⟨h, ?_⟩
      by_cases hz : hA ks ws φ a = true
      · unfold hφ; rw [if_pos hz]
      · unfold hφ; rw [if_neg hz]
        rcases hh with hi | hs | hh
        · cases e : φ a with
          | none => rfl
          | some l =>
            obtain ⟨_, vs, hv, hj⟩ := g.own a (by rw [e]; exact fun z => nomatch z)
            rw [h] at hv; cases hv; rw [hj] at hi; cases hi
        · obtain ⟨i, s, d, v, as, h1, h2, h3, h4, h5, h6⟩ := hs
          have q := g.slot i s h2
          -- the slot's nodes carry its label or none
          have lab : ∀ {o : Bool} {w : V}, σ[i]? = some (some w) → Held φ H M (.slot i) o d w → φ a = none := by
            rintro o w hw ⟨bs, r, _, q, _⟩
            rw [h4] at hw; cases hw
            have : a ∈ bs := Rep.mem_of h5 r h6
            have := q a this
            cases o with
            | false => exact this
            | true =>
              have this : φ a = some (.slot i) := this
              exact absurd (by rw [hA_slot this]; exact h1) hz
          cases s with
          | emp => cases h3
          | pin => cases h3
          | val o d' => cases h3; obtain ⟨w, q1, q2⟩ := q; exact lab q1 q2
          | ref d' => cases h3; obtain ⟨w, q1, _, q2⟩ := q; exact lab q1 q2
        · exact absurd hh hz
  · exact g.own a fun z => h (by unfold hφ; rw [hA_none z]; exact z)
  · have h0 := g.free p fun o z => h o (.inl z)
    refine ⟨h0.1, h0.2, ?_⟩
    cases e : hA ks ws φ p with
    | false => rfl
    | true =>
      obtain ⟨vs, hv⟩ := hid_own p e
      exact absurd (.inr ⟨hv, .inr (.inr e)⟩) (h _)
  · rw [mask_get, Nat.zero_add] at h
    cases e : env[i]? with
    | none => rw [e] at h; cases h
    | some s =>
      rw [e] at h
      have e2 : mask1 ks ws i s = s' := Option.some.inj h
      subst e2
      have q := g.slot i s e
      unfold mask1
      by_cases h1 : ks.contains i = true
      · rw [if_pos h1]
        have hv : hb ks ws i = false := by unfold hb; rw [h1]; rfl
        have pe : hP ks ws pin σ i = pin i := by unfold hP; rw [hv]; rfl
        cases s with
        | emp => trivial
        | pin => obtain ⟨v, q1, q2⟩ := q; exact ⟨v, q1, by rw [pe]; exact q2⟩
        | val o d => obtain ⟨v, q1, q2⟩ := q; exact ⟨v, q1, q2.seen fun k z => by cases z; exact hv⟩
        | ref d => obtain ⟨v, q1, q0, q2⟩ := q; exact ⟨v, q1, by rw [pe]; exact q0, q2.seen fun k z => by cases z; exact hv⟩
      · rw [if_neg h1]
        by_cases h2 : ws.contains i = true
        · rw [if_pos h2]; trivial
        · rw [if_neg h2]
          have hv : hb ks ws i = true := by unfold hb; simp only [Bool.not_eq_true] at h1 h2; rw [h1, h2]; rfl
          have pe : ∀ v, σ[i]? = some (some v) → hP ks ws pin σ i = some v := fun v z => by unfold hP; rw [hv, if_pos rfl, z]
          cases s with
          | emp => trivial
          | pin => obtain ⟨v, q1, q2⟩ := q; exact ⟨v, q1, pe v q1⟩
          | val o d => obtain ⟨v, q1, q2⟩ := q; exact ⟨v, q1, pe v q1⟩
          | ref d => obtain ⟨v, q1, q0, q2⟩ := q; exact ⟨v, q1, pe v q1⟩
theorem Good.unmasked {φ'' : Lab} {H'' : Hp} {e r : Env} {σ'' : L2.St} {ts' : List Tmp} (g : Good M N fx pin φ H env σ ts) (g2 : Good (hM ks ws φ M) N (hF ks ws fx φ H env σ) (hP ks ws pin σ) φ'' H'' e σ'' ts') (hu : unmask ks ws 0 env e = some r) :
    Good M N fx pin (fun a => if hA ks ws φ a then φ a else φ'' a) H'' r σ'' ts' := by
  obtain ⟨l1, l2, hget⟩ := unmask_ok ks ws hu
  have seen : ∀ {l : Lb} {o : Bool} {d : D} {v : V}, Held φ'' H'' (hM ks ws φ M) l o d v → Held (fun a => if hA ks ws φ a then φ a else φ'' a) H'' M l o d v := by
    rintro l o d v ⟨as, r, m, q, n⟩
    refine ⟨as, r, fun a ha => (m a ha).1, fun a ha => ?_, n⟩
    show (if hA ks ws φ a then φ a else φ'' a) = _
    rw [(m a ha).2]; exact q a ha
  refine ⟨?_, fun a o h => ?_, fun a h => ?_, g.free, fun i u h => ?_, fun j t h => seen (g2.tmp j t h)⟩
  · have := g2.len; unfold Lens at *; rw [l1]; exact this
  · obtain ⟨a1, a2⟩ := g2.fix a o (.inl h)
    refine ⟨a1, ?_⟩
    show (if hA ks ws φ a then φ a else φ'' a) = _
    rw [hA_none (g.fix a o h).2]; exact a2
  · have h : (if hA ks ws φ a then φ a else φ'' a) ≠ none := h
    by_cases hz : hA ks ws φ a = true
    · rw [if_pos hz] at h
      obtain ⟨a1, vs, a2, a3⟩ := g.own a h
      exact ⟨a1, vs, (g2.fix a _ (.inr ⟨a2, .inr (.inr hz)⟩)).1, a3⟩
    · rw [if_neg hz] at h
      exact g2.own a h
  · obtain ⟨s, t, e1, e2, e3⟩ := hget i u h
    rw [Nat.zero_add] at e3
    have qs := g.slot i s e1
    have qt := g2.slot i t e2
    unfold un1 at e3
    by_cases hv : (ks.contains i || ws.contains i) = true
    · rw [if_pos hv] at e3
      cases e3
      have hv2 : hb ks ws i = false := by
        unfold hb
        rcases Bool.or_eq_true_iff.mp hv with z | z <;> rw [z] <;> simp
      have pe : hP ks ws pin σ i = pin i := by unfold hP; rw [hv2]; rfl
      cases u with
      | emp => trivial
      | pin => obtain ⟨v, q1, q2⟩ := qt; exact ⟨v, q1, by rw [← pe]; exact q2⟩
      | val o d => obtain ⟨v, q1, q2⟩ := qt; exact ⟨v, q1, seen q2⟩
      | ref d => obtain ⟨v, q1, q0, q2⟩ := qt; exact ⟨v, q1, by rw [← pe]; exact q0, seen q2⟩
    · rw [if_neg hv] at e3
      have hv2 : hb ks ws i = true := by
        unfold hb
        simp only [Bool.or_eq_true, not_or, Bool.not_eq_true] at hv
        rw [hv.1, hv.2]; rfl
      have stay : t = .pin → ∀ {v : V}, σ[i]? = some (some v) → σ''[i]? = some (some v) := fun ht v hσ => by
        subst ht
        obtain ⟨v', q1, q2⟩ := qt
        unfold hP at q2
        rw [hv2, if_pos rfl, hσ] at q2
        cases q2; exact q1
      have held : ∀ {o : Bool} {d : D} {v : V}, s.get = some d → σ[i]? = some (some v) → Held φ H M (.slot i) o d v → Held (fun a => if hA ks ws φ a then φ a else φ'' a) H'' M (.slot i) o d v := by
        rintro o d v hg hσ ⟨as, r, m, q, n⟩
        have inS : ∀ a ∈ as, hS ks ws H env σ a := fun a ha => ⟨i, s, d, v, as, hv2, e1, hg, hσ, r, ha⟩
        refine ⟨as, r.keep fun a u hu hi => ?_, m, fun a ha => ?_, n⟩
        · rcases hi with z | z
          · exact (g2.fix a u (.inr ⟨hu, .inr (.inl (inS a z))⟩)).1
          · exact (g2.fix a u (.inr ⟨hu, .inl z⟩)).1
        · show (if hA ks ws φ a then φ a else φ'' a) = _
          have := q a ha
          cases o with
          | true =>
            have this : φ a = some (.slot i) := this
            rw [hA_slot this, hv2, if_pos rfl]; exact this
          | false =>
            have this : φ a = none := this
            rw [hA_none this]
            obtain ⟨vs, hvs, _⟩ := r.there a ha
            exact (g2.fix a _ (.inr ⟨hvs, .inr (.inl (inS a ha))⟩)).2
      cases s with
      | emp => cases e3; trivial
      | pin =>
        obtain ⟨v, q1, q2⟩ := qs
        cases t with
        | pin => cases e3; exact ⟨v, stay rfl q1, q2⟩
        | _ => cases e3
      | val o d =>
        obtain ⟨v, q1, q2⟩ := qs
        cases t with
        | pin => cases e3; exact ⟨v, stay rfl q1, held rfl q1 q2⟩
        | _ => cases e3
      | ref d =>
        obtain ⟨v, q1, q0, q2⟩ := qs
        cases t with
        | pin => cases e3; exact ⟨v, stay rfl q1, q0, held rfl q1 q2⟩
        | _ => cases e3
end
theorem scope_want {mg : Str → Option Value} {E : XK} {M N : Addr → Prop} {fx : Addr → HO → Prop} {pin : Nat → Option V} {φ : Lab} {H : Hp} {env : Env} {σ : L2.St} {ts : List Tmp} {ks ws : List Nat} {m : SM} {K : Ends} (g : Good M N fx pin φ H env σ ts) (w : SWant M N fx pin mg ts E K (scopeS ks ws m env)) :
    SWant (hM ks ws φ M) N (hF ks ws fx φ H env σ) (hP ks ws pin σ) mg ts E K (m (mask ks ws 0 env)) := by
  unfold scopeS at w
  cases hm : m (mask ks ws 0 env) with
  | no => rw [hm] at w; exact w
  | nx e =>
    rw [hm] at w
    simp only at w
    intro φ' H' σ' g'
    cases hu : unmask ks ws 0 env e with
    | none => rw [hu] at w; exact w.elim
    | some r => rw [hu] at w; exact w _ H' σ' (g.unmasked g' hu)
  | rt o d e =>
    rw [hm] at w
    simp only at w
    intro φ' H' σ' v g'
    cases hu : unmask ks ws 0 env e with
    | none => rw [hu] at w; exact w.elim
    | some r => rw [hu] at w; exact w _ H' σ' v (g.unmasked g' hu)
  | ex x e =>
    rw [hm] at w
    simp only at w
    intro φ' H' σ' c dx g' xr
    cases hu : unmask ks ws 0 env e with
    | none => rw [hu] at w; exact w.elim
    | some r => rw [hu] at w; exact w _ H' σ' c dx (g.unmasked g' hu) xr
section
variable {X : Cx} {E : XK}
theorem snds_scope (ks ws : List Nat) {st : Stmt} {m : SM} (h : SndS X E st m) : SndS X E st (scopeS ks ws m) := by
  obtain ⟨t, h1, h2⟩ := h
  exact ⟨t, h1, fun M N fx pin φ H env σ ts K g w => h2 _ _ _ _ _ H _ σ ts K (g.masked (ks := ks) (ws := ws)) (scope_want g w)⟩
theorem sndb_scope (ks ws : List Nat) {st : List Stmt} {m : SM} (h : SndB X E st m) : SndB X E st (scopeS ks ws m) := by
  obtain ⟨t, h1, h2⟩ := h
  exact ⟨t, h1, fun M N fx pin φ H env σ ts K g w => h2 _ _ _ _ _ H _ σ ts K (g.masked (ks := ks) (ws := ws)) (scope_want g w)⟩
end
end CB

namespace CB
open PySem L2 PySem.Spec PyProof.Rows
variable [CT]

/-! ### what is walked, in a state that may be changed -/
inductive ItR where
  | ok (ds : List D) (env : Env) | ex (x : Xn) (env : Env) | no
def iterS (ks : List Nat) (ι : I) (env : Env) : ItR := match ι env with
  | .ok f ds => if f && noLs ds then .ok ds env else match ι (hide ks 0 env) with
    | .ok _ ds2 => .ok ds2 (demK ks env)
    | _ => .no
  | .ex x => .ex x env
  | .no => .no
section
variable {X : Cx} {E : XK}
theorem noLs_mem : ∀ {l : List D}, noLs l = true → ∀ d ∈ l, noL d = true := by
  intro l
  induction l with
  | nil => intro _ d h; cases h
  | cons x l ih =>
    intro h d hd
    simp only [noLs, Bool.and_eq_true] at h
    rcases List.mem_cons.mp hd with z | z
    · subst z; exact h.1
    · exact ih h.2 d z
theorem iter_open {wi : TI} {ι : I} (ks : List Nat) (i2 : ∀ (S : Addr → Prop) env σ H R, ObsEnv S H env σ → IWant S X.mg H R E (ι env) → wi σ H R) {M N : Addr → Prop} {fx : Addr → HO → Prop} {pin : Nat → Option V} {φ : Lab} {H : Hp} {env : Env} {σ : L2.St} {ts : List Tmp} {R : It → Hp → Prop} (g : Good M N fx pin φ H env σ ts)
    (w : match iterS ks ι env with
      | .ok ds env' => ∀ φ' H' J fi cD cV us, Ex H H' → Good M N (fun a o => fx a o ∨ fi a o) pin φ' H' env' σ (ts ++ us) → Serves J fi ds cD cV → (∀ i, i < ds.length → (cD i).length = (cV i).length ∧ ∀ t ∈ shT (cD i) (cV i), t ∈ us) → (∀ t ∈ us, t.1 = false) → R J H'
      | .ex x env' => ∀ φ' H' c dx, Good M N fx pin φ' H' env' σ ts → XR X.mg x c dx H' → E c dx H'
      | .no => False) : wi σ H R := by
  unfold iterS at w
  have items : ∀ {S : Addr → Prop} {H' : Hp} {φ' : Lab} {n : Nat} {cD : Nat → List D} {cV : Nat → List V}, (∀ i, i < n → ∃ as, Reps H' (cD i) (cV i) as ∧ ∀ a ∈ as, S a ∨ H a = none) → (∀ i, i < n → ∀ as, Reps H' (cD i) (cV i) as → ∀ a ∈ as, S a ∨ H a = none → M a ∧ φ' a = none) →
      Shd φ' H' M ((List.range n).flatMap fun i => shT (cD i) (cV i)) ∧ ∀ i, i < n → (cD i).length = (cV i).length ∧ ∀ t ∈ shT (cD i) (cV i), t ∈ (List.range n).flatMap fun i => shT (cD i) (cV i) := by
    intro S H' φ' n cD cV h1 h2
    refine ⟨fun t ht => ?_, fun i hi => ?_⟩
    · obtain ⟨i, hi, ht⟩ := List.mem_flatMap.mp ht
      have hi' : i < n := List.mem_range.mp hi
      obtain ⟨as, r, ma⟩ := h1 i hi'
      exact (r.shd fun a q => h2 i hi' as r a q (ma a q)) t ht
    · obtain ⟨as, r, _⟩ := h1 i hi
      exact ⟨r.length, fun t ht => List.mem_flatMap.mpr ⟨i, List.mem_range.mpr hi, ht⟩⟩
  have allf : ∀ {n : Nat} {cD : Nat → List D} {cV : Nat → List V}, ∀ t ∈ (List.range n).flatMap fun i => shT (cD i) (cV i), t.1 = false := by
    intro n cD cV t ht
    obtain ⟨i, _, ht⟩ := List.mem_flatMap.mp ht
    unfold shT at ht
    obtain ⟨p, _, e⟩ := List.mem_map.mp ht
    rw [← e]
  cases hι : ι env with
  | no => rw [hι] at w; exact w.elim
  | ex x =>
    refine i2 M env σ H _ g.obs ?_
    rw [hι] at w ⊢
    exact fun c dx H' e r => w φ H' c dx (g.ext e) r
  | ok f ds =>
    rw [hι] at w
    simp only at w
    by_cases hz : (f && noLs ds) = true
    · rw [if_pos hz] at w
      simp only [Bool.and_eq_true] at hz
      refine i2 M env σ H _ g.obs ?_
      rw [hι]
      intro J H1 fi cD cV e1 sv hfi hcv hfr hcs
      have g1 := g.ext e1
      obtain ⟨hsh, hin⟩ := items (S := M) (φ' := φ) hcv fun i hi as r a ha => by
        rw [r.noL (sv.nol i _ (by simp : ds[i]? = some ds[i]) (noLs_mem hz.2 _ (List.getElem_mem hi)))] at ha; cases ha
      exact w φ H1 J fi cD cV _ e1 ((g1.keepT hsh).fixed fun a o z => ⟨hfi a o z, by
        rcases hfr hz.1 a o z with y | y
        · exact g.lab_none y
        · cases hq : φ a with
          | none => rfl
          | some l =>
            obtain ⟨_, vs, hv, hi⟩ := g1.own a (by rw [hq]; exact fun z => nomatch z)
            rw [hfi a o z] at hv; cases hv; rw [hi] at y; cases y⟩) sv hin allf
    · rw [if_neg hz] at w
      cases hι2 : ι (hide ks 0 env) with
      | no => rw [hι2] at w; exact w.elim
      | ex x => rw [hι2] at w; exact w.elim
      | ok f2 ds2 =>
        rw [hι2] at w
        simp only at w
        refine i2 _ _ σ H _ (g.obsK ks) ?_
        rw [hι2]
        intro J H1 fi cD cV e1 sv hfi hcv hfr hcs
        obtain ⟨φ', g', k1, k2⟩ := g.demK ks
        have g1 := g'.ext e1
        have lab : ∀ a, (M a ∧ (φ a = none ∨ ∃ k ∈ ks, φ a = some (.slot k))) ∨ H a = none → M a ∧ φ' a = none := fun a z => by
          rcases z with ⟨y1, y | ⟨k, hk, y⟩⟩ | y
          · exact ⟨y1, k1 a y⟩
          · exact ⟨y1, k2 k hk a y⟩
          · exact ⟨(g.fresh y).2, k1 a (g.lab_none y)⟩
        obtain ⟨hsh, hin⟩ := items (φ' := φ') hcv fun i hi as r a ha z => lab a z
        exact w φ' H1 J fi cD cV _ e1 ((g1.keepT hsh).fixed fun a o z => ⟨hfi a o z, by
          rcases hcs a o z with y | y | y
          · exact (lab a (.inl y)).2
          · exact (lab a (.inr y)).2
          · cases hq : φ' a with
            | none => rfl
            | some l =>
              obtain ⟨_, vs, hv, hi⟩ := g1.own a (by rw [hq]; exact fun z => nomatch z)
              rw [hfi a o z] at hv; cases hv; rw [hi] at y; cases y⟩) sv hin allf

/-! ### comprehensions that may change things -/
end
section
variable {M N : Addr → Prop} {fx : Addr → HO → Prop} {pin : Nat → Option V} {φ : Lab} {H : Hp} {env : Env} {σ : L2.St} {ts : List Tmp}
theorem wipeE_get {env : Env} {i : Nat} {s : Sl} : ∀ {vs : List Nat}, (wipeE env vs)[i]? = some s → s = .emp ∨ (env[i]? = some s ∧ i ∉ vs)
  | [], h => .inr ⟨h, by simp⟩
  | v :: vs, h => by
    unfold wipeE at h
    by_cases hi : i = v
    · subst hi
      by_cases hl : i < (wipeE env vs).length
      · rw [List.getElem?_set_self hl] at h; cases h; exact .inl rfl
      · rw [List.getElem?_eq_none (by simpa using hl)] at h; cases h
    · rw [List.getElem?_set_ne (Ne.symm hi)] at h
      rcases wipeE_get h with z | ⟨z, y⟩
      · exact .inl z
      · exact .inr ⟨z, by simp only [List.mem_cons, not_or]; exact ⟨hi, y⟩⟩
theorem Good.wiped (g : Good M N fx pin φ H env σ ts) (vs : List Nat) : Good M N fx pin φ H (wipeE env vs) (L2.wipe σ vs) ts :=
  ⟨by have := g.len; unfold Lens at *; rw [wipeE_length, wipe_length]; exact this, g.fix, g.own, g.free, fun i s h => by
    rcases wipeE_get h with z | ⟨z, y⟩
    · subst z; trivial
    · rw [wipe_get y]; exact g.slot i s z, g.tmp⟩
theorem Good.unwiped {vs : List Nat} {σ2 : L2.St} (g : Good M N fx pin φ H env σ2 ts) (hw : L2.wipe σ2 vs = L2.wipe σ vs) : Good M N fx pin φ H (wipeE env vs) (L2.wipe σ vs) ts := hw ▸ g.wiped vs
theorem Good.home {vs : List Nat} (g : Good M N fx pin φ H (wipeE env vs) (L2.wipe σ vs) ts) : Good M N fx pin φ H (wipeE env vs) σ ts :=
  ⟨by have := g.len; unfold Lens at *; rw [wipe_length] at this; exact this, g.fix, g.own, g.free, fun i s h => by
    have q := g.slot i s h
    rcases wipeE_get h with z | ⟨_, y⟩
    · subst z; trivial
    · rw [wipe_get y] at q; exact q, g.tmp⟩
/-- a temporary list grows by a temporary -/
theorem Good.grow {a : Addr} {xs : List D} {o : Bool} {d : D} {v : V} (g : Good M N fx pin φ H env σ (ts ++ [(true, .lst xs, .ref a)] ++ [(o, d, v)])) (ho : (o || noL d) = true) :
    ∃ vs, H a = some (.lst vs) ∧ vs.length = xs.length ∧ ∃ φ', Good M N fx pin φ' (upd H a (.lst (vs ++ [v]))) env σ (ts ++ [(true, .lst (xs ++ [d]), .ref a)]) := by
  have hl : (ts ++ [(true, D.lst xs, V.ref a)]).length = ts.length + 1 := by simp
  obtain ⟨as, r, m, q, n⟩ := g.tmp ts.length (true, .lst xs, .ref a) (by simp)
  obtain ⟨bs, b1, b2, b3⟩ := own_tmp g ho
  rw [hl] at b3
  cases r with
  | @lst _ vs _ as' ha rs =>
    have qa : φ a = some (.tmp ts.length) := q a List.mem_cons_self
    have no := List.nodup_cons.mp (n rfl)
    have hab : a ∉ bs := fun z => by have := (b3 _ z).2; rw [qa] at this; simp at this
    have dj : ∀ b ∈ as', b ∉ bs := fun b hb hb2 => by
      have h1 := (b3 _ hb2).2
      have h2 : φ b = some (.tmp ts.length) := q b (List.mem_cons_of_mem _ hb)
      rw [h2] at h1; simp at h1
    refine ⟨vs, ha, rs.length.symm, fun b => if φ b = some (.tmp (ts.length + 1)) then some (.tmp ts.length) else φ b, ?_⟩
    have oth : ∀ {l : Lb} {o : Bool} {d : D} {v' : V}, l ≠ .tmp ts.length → l ≠ .tmp (ts.length + 1) → Held φ H M l o d v' → Held (fun b => if φ b = some (.tmp (ts.length + 1)) then some (.tmp ts.length) else φ b) (upd H a (.lst (vs ++ [v]))) M l o d v' := fun {l o d v'} h1 h2 k => k.keep fun cs r q => by
      have nq : ∀ c ∈ cs, φ c ≠ some (.tmp ts.length) ∧ φ c ≠ some (.tmp (ts.length + 1)) := fun c hc => by
        rw [q c hc]
        cases o with
        | true => exact ⟨fun z => h1 (Option.some.inj z), fun z => h2 (Option.some.inj z)⟩
        | false => simp
      refine ⟨r.keep fun c u hcu hci => ?_, fun c hc => ?_⟩
      · have : c ≠ a := fun z => by
          subst z
          rcases hci with z | z
          · exact (nq _ z).1 qa
          · rw [ha] at hcu; cases hcu; cases z
        rw [upd_ne this]; exact hcu
      · show (if φ c = some (.tmp (ts.length + 1)) then some (.tmp ts.length) else φ c) = _
        rw [if_neg (nq c hc).2]; exact q c hc
    refine ⟨g.len, fun c o h => ?_, fun c h => ?_, g.free, fun k s h => (g.slot k s h).keep fun o d v q => ?_, fun j t h => ?_⟩
    · obtain ⟨f1, f2⟩ := g.fix c o h
      have hca : c ≠ a := fun z => by rw [z, qa] at f2; cases f2
      refine ⟨by rw [upd_ne hca]; exact f1, ?_⟩
      show (if φ c = some (.tmp (ts.length + 1)) then some (.tmp ts.length) else φ c) = _
      rw [f2]; simp
    · have hc : φ c ≠ none := fun z => h (by
        show (if φ c = some (.tmp (ts.length + 1)) then some (.tmp ts.length) else φ c) = _
        rw [z]; simp)
      obtain ⟨h1, ws, h2, h3⟩ := g.own c hc
      refine ⟨h1, ?_⟩
      by_cases hca : c = a
      · subst hca; exact ⟨_, upd_same, rfl⟩
      · exact ⟨ws, by rw [upd_ne hca]; exact h2, h3⟩
    · exact oth (fun z => nomatch z) (fun z => nomatch z) q
    · by_cases hj : j < ts.length
      · rw [List.getElem?_append_left hj] at h
        refine oth (fun z => ?_) (fun z => ?_) (g.tmp j t (by rw [List.append_assoc, List.getElem?_append_left hj]; exact h))
        · cases z; exact absurd hj (Nat.lt_irrefl _)
        · cases z; omega
      · have hj' : j = ts.length := by
          have := (List.getElem?_eq_some_iff.mp h).1
          simp at this; omega
        subst hj'
        simp at h
        subst h
        have one : Reps H [d] [v] bs := by
          have : Reps H [d] [v] (bs ++ []) := .cons b1 .nil
          rwa [List.append_nil] at this
        refine ⟨a :: (as' ++ bs), .lst upd_same ((rs.append one).upd ha fun z => (List.mem_append.mp z).elim no.1 hab), fun b hb => ?_, fun b hb => ?_, fun _ => List.nodup_cons.mpr ⟨fun z => (List.mem_append.mp z).elim no.1 hab, nodup_snoc no.2 b2 dj⟩⟩
        · rcases List.mem_cons.mp hb with z | z
          · subst z; exact m _ List.mem_cons_self
          · rcases List.mem_append.mp z with z | z
            · exact m b (List.mem_cons_of_mem _ z)
            · exact (b3 b z).1
        · show (if φ b = some (.tmp (ts.length + 1)) then some (.tmp ts.length) else φ b) = _
          rcases List.mem_cons.mp hb with z | z
          · subst z; rw [qa]; simp
          · rcases List.mem_append.mp z with z | z
            · rw [show φ b = some (.tmp ts.length) from q b (List.mem_cons_of_mem _ z)]; simp
            · rw [(b3 b z).2]; simp
end
def loopC (vs : List Nat) (τ : Tgt) (t el : GE) : List D → Env → List D → GR
  | [], env, acc => .ok true (.lst acc) env
  | d :: ds, env, acc => match bindT τ d env with
    | some e1 => match t e1 with
      | .ok _ (.bl true) e2 => match el e2 with
        | .ok o y e3 => if (o || noL y) && szOk acc.length then loopC vs τ t el ds (wipeE e3 vs) (acc ++ [y]) else .no
        | _ => .no
      | .ok _ (.bl false) e2 => loopC vs τ t el ds (wipeE e2 vs) acc
      | _ => .no
    | none => .no
def compG (ks vs : List Nat) (τ : Tgt) (ι : I) (t el : GE) : GE := fun env => match iterS ks ι env with
  | .ok ds env' => loopC vs τ t el ds (wipeE env' vs) []
  | .ex x env' => .ex x env'
  | .no => .no
/-- readings that do not lean on the context -/
def cGE (mg : Str → Option Value) (m : GE) : TE := fun σ H Q => ∃ M N fx pin φ env ts, Good M N fx pin φ H env σ ts ∧ GWant M N fx pin mg σ ts E0 Q (m env)
def cTG (mg : Str → Option Value) (m : GE) : TT := fun σ H Q => ∃ M N fx pin φ env ts, Good M N fx pin φ H env σ ts ∧ TGWant M N fx pin mg σ ts E0 Q (m env)
section
variable {X : Cx} {E : XK}
def SndTsG (X : Cx) (ifs : List Expr) (m : GE) : Prop := ∃ t, PTs X ifs t ∧ ∀ M N fx pin φ H env σ ts Q, Good M N fx pin φ H env σ ts → TGWant M N fx pin X.mg σ ts E0 Q (m env) → t σ H Q
def yesG : GE := fun env => .ok true (.bl true) env
theorem sndtsg_nil : SndTsG X [] yesG := ⟨_, pts_nil, fun M N fx pin φ H env σ ts Q g w => w φ H g⟩
theorem sndtsg_one {c : Expr} {m : GE} (h : SndTG X E0 c m) : SndTsG X [c] m := let ⟨t, a, b⟩ := h; ⟨t, pts_one a, b⟩
def liftT (p : P) : GE := fun env => match p env with
  | .ok _ d => .ok true d env
  | .ex x => .ex x env
  | .no => .no
theorem sndtg_pure {c : Expr} {p : P} (h : SndT X E c p) : SndTG X E c (liftT p) := by
  obtain ⟨t, a, b⟩ := h
  refine ⟨t, a, fun M N fx pin φ H env σ ts Q g w => b M env σ H Q g.obs ?_⟩
  unfold liftT at w
  cases hp : p env with
  | no => rw [hp] at w; exact w
  | ex x => rw [hp] at w; exact fun c dx H' e r => w φ H' c dx (g.ext e) r
  | ok f d =>
    rw [hp] at w
    cases d with
    | bl b => exact fun H' e => w φ H' (g.ext e)
    | _ => exact (show False from w).elim
theorem SndE.c {e : Expr} {m : GE} (h : SndE X E0 e m) : PE X e (cGE X.mg m) := by
  obtain ⟨t, h1, h2⟩ := h
  exact ⟨fun pins s σ H Q I ⟨M, N, fx, pin, φ, env, ts, g, w⟩ => h1.run pins s σ H Q I (h2 M N fx pin φ H env σ ts Q g w)⟩
theorem SndTsG.c {ifs : List Expr} {m : GE} (h : SndTsG X ifs m) : PTs X ifs (cTG X.mg m) := by
  obtain ⟨t, h1, h2⟩ := h
  exact ⟨fun pins s σ H Q I ⟨M, N, fx, pin, φ, env, ts, g, w⟩ => h1.run pins s σ H Q I (h2 M N fx pin φ H env σ ts Q g w)⟩
theorem loopC_core {M N : Addr → Prop} {fx fi : Addr → HO → Prop} {pin : Nat → Option V} {φ : Lab} {H1 : Hp} {env : Env} {σ : L2.St} {ts us : List Tmp} {Q : VK} {τ : Tgt} {t el : GE} {vs : List Nat} {J : It} {ds : List D} {cD : Nat → List D} {cV : Nat → List V} {Dl : Addr}
    (sv : Serves J fi ds cD cV) (hl : ∀ i, i < ds.length → (cD i).length = (cV i).length ∧ ∀ t ∈ shT (cD i) (cV i), t ∈ us) (hus : ∀ t ∈ us, t.1 = false) (hτ : ∀ i ∈ slotsOf τ, i ∈ vs)
    (g0 : Good M N (fun a o => fx a o ∨ fi a o) pin φ H1 env σ (ts ++ us)) (gf : ∀ p, (∀ o, ¬ fx p o) → N p ∧ M p) (hD : H1 Dl = none) (w : GWant M N fx pin X.mg σ ts E Q (loopC vs τ t el ds (wipeE env vs) [])) :
    ∃ W : Nat → Nat → Hp → Prop, (∃ m, W 0 m (upd H1 Dl (.lst []))) ∧ ∀ i m H, W i m H →
      (J.stop i H ∧ Q (.ref Dl) H) ∨ (J.go i H ∧ ∃ Nx : Hp → Prop, (∀ H', Nx H' → ∃ m', m' < m ∧ W (i + 1) m' H') ∧ ∀ x H', J.yld i H x H' → cG τ x (L2.wipe σ vs) H' fun σ2 H2 => L2.wipe σ2 vs = L2.wipe σ vs ∧ cTG X.mg t σ2 H2 fun b H3 =>
        if b = true then cGE X.mg el σ2 H3 fun y H4 => ∃ acc, H4 Dl = some (.lst acc) ∧ acc.length < sizeLine ∧ Nx (upd H4 Dl (.lst (acc ++ [y]))) else Nx H3) := by
  have gN : Good M N (fun a o => fx a o ∨ fi a o) pin (lbl φ [Dl] (.tmp (ts ++ us).length)) (upd H1 Dl (.lst [])) (wipeE env vs) (L2.wipe σ vs) (ts ++ us ++ [(true, .lst [], .ref Dl)]) :=
    (g0.wiped vs).push (Ex.new hD) (.lst upd_same .nil) ⟨by simp, fun a ha => by simp at ha; rw [ha]; exact hD⟩
  refine ⟨fun i n H => n = ds.length - i ∧ i ≤ ds.length ∧ ∃ φ env acc, Good M N (fun a o => fx a o ∨ fi a o) pin φ H (wipeE env vs) (L2.wipe σ vs) (ts ++ us ++ [(true, .lst acc, .ref Dl)]) ∧ GWant M N fx pin X.mg σ ts E Q (loopC vs τ t el (ds.drop i) (wipeE env vs) acc), ⟨ds.length, by simp, Nat.zero_le _, _, env, [], gN, by simpa using w⟩, ?_⟩
  rintro i n H ⟨rfl, hi, φ1, env1, acc, g1, w1⟩
  have hf : Holds fi H := fun a o z => (g1.fix a o (.inr z)).1
  by_cases hlt : i < ds.length
  · obtain ⟨d, hd⟩ : ∃ d, ds[i]? = some d := ⟨ds[i], by simp⟩
    have ed : ds.drop i = d :: ds.drop (i + 1) := by
      have e2 : ds[i] = d := by
        have := List.getElem?_eq_getElem hlt
        rw [this] at hd; exact Option.some.inj hd
      rw [← e2]
      exact List.drop_eq_getElem_cons hlt
    rw [ed] at w1
    simp only [loopC] at w1
    refine .inr ⟨sv.go i H hlt hf, fun H' => ∃ φ env acc, Good M N (fun a o => fx a o ∨ fi a o) pin φ H' (wipeE env vs) (L2.wipe σ vs) (ts ++ us ++ [(true, .lst acc, .ref Dl)]) ∧ GWant M N fx pin X.mg σ ts E Q (loopC vs τ t el (ds.drop (i + 1)) (wipeE env vs) acc), fun H' h => ⟨ds.length - (i + 1), by omega, rfl, hlt, h⟩, fun x H' hy => ?_⟩
    obtain ⟨ex, rx⟩ := sv.yld i H x H' hf hy d hd
    have g1' : Good M N (fun a o => fx a o ∨ fi a o) pin φ1 H (wipeE env1 vs) (L2.wipe σ vs) (ts ++ us) := g1.drop1
    obtain ⟨as, ra, ma⟩ := shd_reps (hl i hlt).1 (fun t ht => (g1'.shd hus) t ((hl i hlt).2 t ht))
    have rd := rx as ra
    cases hb : bindT τ d (wipeE env1 vs) with
    | none => rw [hb] at w1; exact w1.elim
    | some e1 =>
      rw [hb] at w1
      simp only at w1
      refine ⟨d, as, rd, bindT_fits hb, fun σ2 ht => ?_⟩
      have hw : L2.wipe σ2 vs = L2.wipe σ vs := by rw [tgV_wipe ht hτ, wipe_wipe]
      obtain ⟨φ2, g2⟩ := (g1.ext ex).bindT rd ma hb ht
      refine ⟨hw, M, N, _, pin, φ2, e1, _, g2, ?_⟩
      cases htest : t e1 with
      | no => rw [htest] at w1; exact w1.elim
      | ex x e => rw [htest] at w1; exact w1.elim
      | ok o b e2 =>
        rw [htest] at w1
        cases b with
        | bl b =>
          intro φ3 H3 g3
          cases b with
          | false =>
            refine iteF ?_
            exact ⟨φ3, e2, acc, g3.unwiped hw, w1⟩
          | true =>
            refine iteT ?_
            simp only at w1
            refine ⟨M, N, _, pin, φ3, e2, _, g3, ?_⟩
            cases hel : el e2 with
            | no => rw [hel] at w1; exact w1.elim
            | ex x e => rw [hel] at w1; exact w1.elim
            | ok oy y e3 =>
              rw [hel] at w1
              simp only at w1
              intro φ4 H4 v g4
              split at w1
              · rename_i hz
                simp only [Bool.and_eq_true] at hz
                obtain ⟨ws, k1, k2, φ5, g5⟩ := g4.grow hz.1
                exact ⟨ws, k1, szOk_lt (by rw [k2]; exact hz.2), φ5, e3, acc ++ [y], g5.unwiped hw, w1⟩
              · exact w1.elim
        | _ => exact (show False from w1).elim
  · have e : i = ds.length := by omega
    subst e
    rw [List.drop_length] at w1
    refine .inl ⟨sv.stop _ H (Nat.le_refl _) hf, ?_⟩
    obtain ⟨φ6, g6⟩ := g1.home.squash
    exact w1 φ6 H (.ref Dl) (g6.unfixed gf)
theorem compG_read {iter tg : Expr} {ι : I} {τ : Tgt} {t el : GE} (ks : List Nat) {vs : List Nat} (hi : SndI X E tg iter ι) (hτ : ∀ i ∈ slotsOf τ, i ∈ vs) :
    ∃ wi, PI X tg iter wi ∧ ∀ M N fx pin φ H env σ ts Q, Good M N fx pin φ H env σ ts → GWant M N fx pin X.mg σ ts E Q (compG ks vs τ ι t el env) → tLc wi (cG τ) (cTG X.mg t) (cGE X.mg el) vs σ H Q := by
  obtain ⟨wi, i1, i2⟩ := hi
  refine ⟨wi, i1, fun M N fx pin φ H env σ ts Q g w => iter_open ks i2 g ?_⟩
  unfold compG at w
  cases hι : iterS ks ι env with
  | no => rw [hι] at w; exact w
  | ex x e => rw [hι] at w; exact w
  | ok ds env' =>
    rw [hι] at w
    intro φ' H' J fi cD cV us e g' sv hl hus D hD
    exact loopC_core sv hl hus hτ g' g.free hD w
theorem snde_comp (ks : List Nat) {elt tg iter : Expr} {ifs : List Expr} {scope : Scope} {own : List (Str × Nat)} {pos : Pos} {ι : I} {τ : Tgt} {t el : GE} (hc : X.calm = true) (hN : X.N.Nodup) (hi : SndI X E tg iter ι) (ok : BlkOk X.N X.env.scope scope own)
    (hg : Blk X scope fun Y => SndG Y tg τ) (ht : Blk X scope fun Y => SndTsG Y ifs t) (he : Blk X scope fun Y => SndE Y E0 elt el) (hτ : ∀ i ∈ slotsOf τ, i ∈ own.map (·.2) := by decide) (hs : ∀ x, foldedSetIterable iter X.env x = pure x := by intro _; rfl) :
    SndE X E (.ListComp elt [⟨tg, iter, ifs, 0⟩] scope pos) (compG ks (own.map (·.2)) τ ι t el) := by
  obtain ⟨wi, h1, h2⟩ := compG_read (t := t) (el := el) ks hi hτ
  exact ⟨_, pe_lc hc hN h1 ok (fun s H C cl fp => (hg s H C cl fp).c) (fun s H C cl fp => (ht s H C cl fp).c) (fun s H C cl fp => (he s H C cl fp).c) hs, h2⟩
theorem snds_setCG (ks : List Nat) {i : Nat} {y : Str} {py : Pos} {elt tg iter : Expr} {ifs : List Expr} {scope : Scope} {own : List (Str × Nat)} {pos spos : Pos} {ι : I} {τ : Tgt} {t el : GE} (hc : X.calm = true) (hN : X.N.Nodup) (hy : X.N[i]? = some y) (hyl : X.env.scope.names.lookup y = some .local)
    (hsw : swapsWith (.ListComp elt [⟨tg, iter, ifs, 0⟩] scope pos) (some (.Name y py)) spos.line X.env = pure true) (hi : SndI X E tg iter ι) (ok : BlkOk X.N X.env.scope scope own)
    (hg : Blk X scope fun Y => SndG Y tg τ) (ht : Blk X scope fun Y => SndTsG Y ifs t) (he : Blk X scope fun Y => SndE Y E0 elt el) (hτ : ∀ i ∈ slotsOf τ, i ∈ own.map (·.2) := by decide) (hs : ∀ x, foldedSetIterable iter X.env x = pure x := by intro _; rfl) :
    SndS X E (.Assign [.Name y py] (.ListComp elt [⟨tg, iter, ifs, 0⟩] scope pos) spos) (asgS i (compG ks (own.map (·.2)) τ ι t el)) := by
  obtain ⟨wi, h1, h2⟩ := compG_read (t := t) (el := el) ks hi hτ
  exact ⟨_, ps_setLc hc hN hy hyl hsw h1 ok (fun s H C cl fp => (hg s H C cl fp).c) (fun s H C cl fp => (ht s H C cl fp).c) (fun s H C cl fp => (he s H C cl fp).c) hs, asg_read i h2⟩
end
end CB

namespace CB
open PySem L2 PySem.Spec PyProof.Rows
variable [CT]

section
variable {X : Cx} {E : XK} {tg : Expr}
/-! ### reversed(..) -/
theorem rev_get {α : Type} {l : List α} {i : Nat} (h : i < l.length) : l.reverse[i]? = l[l.length - 1 - i]? := List.getElem?_reverse h
theorem reps_rev {H : Hp} : ∀ {xs : List D} {vs : List V} {as : List Addr}, Reps H xs vs as → ∃ bs, Reps H xs.reverse vs.reverse bs ∧ ∀ a ∈ bs, a ∈ as
  | _, _, _, .nil => ⟨[], .nil, fun a h => h⟩
  | _, _, _, .cons (as := as) (bs := bs) r rs => by
    obtain ⟨cs, h1, h2⟩ := reps_rev rs
    refine ⟨cs ++ as, ?_, fun a h => ?_⟩
    · rw [List.reverse_cons, List.reverse_cons]
      have : Reps H [_] [_] (as ++ []) := .cons r .nil
      rw [List.append_nil] at this
      exact h1.append this
    · rcases List.mem_append.mp h with z | z
      · exact List.mem_append_right _ (h2 a z)
      · exact List.mem_append_left _ z
theorem serves_revL {K : PySem.W.Frag} {a : Addr} {xs : List D} {vs : List V} {Fx : Addr → HO → Prop} (hl : xs.length = vs.length) (hq : ∀ H, Holds Fx H → SqL K H a vs) : Serves (Itv K a vs.length) Fx xs.reverse (fun i => (xs.reverse[i]?).toList) (fun i => (vs.reverse[i]?).toList) where
  go := fun i H hi hf => by
    rw [List.length_reverse] at hi
    exact ⟨by omega, vs, vs[vs.length - 1 - i]'(by omega), hq H hf, by simp⟩
  yld := fun i H x H' hf hy d hd => by
    obtain ⟨e, hy⟩ := hy
    subst e
    have h1 := hy vs (hq _ hf)
    have hi : i < vs.length := by have := (List.getElem?_eq_some_iff.mp hd).1; rw [List.length_reverse] at this; omega
    refine ⟨Ex.refl _, fun as ra => ?_⟩
    rw [hd, rev_get hi, h1] at ra
    obtain ⟨v, ev, rv⟩ := Reps.one ra
    cases ev; exact rv
  stop := fun i H hi hf => by rw [List.length_reverse] at hi; show vs.length ≤ i; omega
  nol := fun i d h hn => by simp only [h, Option.toList, noLs, hn, Bool.and_true]
theorem serves_revT {K : PySem.W.Frag} {a : Addr} {xs : List D} {vs : List V} {Fx : Addr → HO → Prop} (hl : xs.length = vs.length) (hq : ∀ H, Holds Fx H → SqT K H a vs) : Serves (RT.ItvT K a vs.length) Fx xs.reverse (fun i => (xs.reverse[i]?).toList) (fun i => (vs.reverse[i]?).toList) where
  go := fun i H hi hf => by
    rw [List.length_reverse] at hi
    exact ⟨by omega, vs, vs[vs.length - 1 - i]'(by omega), hq H hf, by simp⟩
  yld := fun i H x H' hf hy d hd => by
    obtain ⟨e, hy⟩ := hy
    subst e
    have h1 := hy vs (hq _ hf)
    have hi : i < vs.length := by have := (List.getElem?_eq_some_iff.mp hd).1; rw [List.length_reverse] at this; omega
    refine ⟨Ex.refl _, fun as ra => ?_⟩
    rw [hd, rev_get hi, h1] at ra
    obtain ⟨v, ev, rv⟩ := Reps.one ra
    cases ev; exact rv
  stop := fun i H hi hf => by rw [List.length_reverse] at hi; show vs.length ≤ i; omega
  nol := fun i d h hn => by simp only [h, Option.toList, noLs, hn, Bool.and_true]
def irev (p : P) : I := fun env => match p env with
  | .ok f (.lst xs) => .ok f xs.reverse
  | .ok _ (.frz xs) => .ok true xs.reverse
  | .ok _ (.tup xs) => .ok true xs.reverse
  | .ok _ _ => .no
  | .ex x => .ex x
  | .no => .no
theorem sndi_rev {e : Expr} {p : P} {p1 pos : Pos} (h : SndP X E e p) (hg : Gl X "reversed") (hm : X.mg "reversed" = none) (hs : starEach [e] X.env = (false, eval e X.env) :: starEach [] X.env := by rfl) : SndI X E tg (.Call (.Name "reversed" p1) [e] [] pos) (irev p) := by
  obtain ⟨t, h1, h2⟩ := h
  refine ⟨_, RT.pi_revA hg hm h1 hs, fun S env σ H R o w => h2 S env σ H _ o ?_⟩
  unfold irev at w
  cases hp : p env with
  | no => rw [hp] at w; exact w
  | ex x => rw [hp] at w; exact w
  | ok f d =>
    rw [hp] at w
    intro v H1 as e1 r1 m1 n1
    cases r1 with
    | @lst a vs xs as' h s =>
      obtain ⟨bs, rb, mb⟩ := reps_rev s
      refine ⟨a, vs, rfl, .inl ⟨SqL.of h, w _ H1 (fun b o => b = a ∧ o = .lst vs) _ _ e1 (serves_revL s.length fun H hf => SqL.of (hf a _ ⟨rfl, rfl⟩)) (fun b o ⟨z1, z2⟩ => by subst z1 z2; exact h) (reps_each rb fun b hb => m1 b (List.mem_cons_of_mem _ (mb b hb))) (fun z b o ⟨z1, _⟩ => ?_) fun b o ⟨z1, _⟩ => ?_⟩⟩
      · subst z1; exact .inl ((n1 z).2 _ List.mem_cons_self)
      · subst z1; exact (m1 _ List.mem_cons_self).imp id .inl
    | @frz a ob vs xs h s =>
      obtain ⟨bs, rb, mb⟩ := reps_rev s
      refine ⟨a, vs, rfl, .inl ⟨SqL.frz h, w _ H1 (fun b u => b = a ∧ u = .frz ob (.lst vs)) _ _ e1 (serves_revL s.length fun H hf => SqL.frz (hf a _ ⟨rfl, rfl⟩)) (fun b o ⟨z1, z2⟩ => by subst z1 z2; exact h) (reps_each rb fun b hb => m1 b (mb b hb)) (fun z b o ⟨_, z2⟩ => ?_) fun b o ⟨_, z2⟩ => ?_⟩⟩
      · subst z2; exact .inr rfl
      · subst z2; exact .inr (.inr rfl)
    | @tup a ob vs xs _ h hd' s =>
      obtain ⟨bs, rb, mb⟩ := reps_rev s
      refine ⟨a, vs, rfl, .inr ⟨SqT.frz h, w _ H1 (fun b u => b = a ∧ u = .frz ob (.tup vs)) _ _ e1 (serves_revT s.length fun H hf => SqT.frz (hf a _ ⟨rfl, rfl⟩)) (fun b o ⟨z1, z2⟩ => by subst z1 z2; exact h) (reps_each rb fun b hb => m1 b (mb b hb)) (fun z b o ⟨_, z2⟩ => ?_) fun b o ⟨_, z2⟩ => ?_⟩⟩
      · subst z2; exact .inr rfl
      · subst z2; exact .inr (.inr rfl)
    | _ => exact (show False from w).elim
def irevR (q : Env → Option (Int × Int)) : I := fun env => match q env with
  | some (i, j) => if rgSz i && rgSz j then .ok true (rgD i (j - i).toNat).reverse else .no
  | none => .no
theorem serves_revR (a : Int) (n : Nat) : Serves (Itc (a + (n : Int) - 1) (-1) n) (fun _ _ => False) (rgD a n).reverse (fun _ => []) (fun _ => []) where
  go := fun i H hi _ => by rw [List.length_reverse, rgD_length] at hi; exact hi
  yld := fun i H x H' _ hy d hd => by
    obtain ⟨e1, e2⟩ := hy
    subst e1 e2
    refine ⟨Ex.refl _, fun as r => ?_⟩
    cases r
    have hi : i < n := by have := (List.getElem?_eq_some_iff.mp hd).1; rwa [List.length_reverse, rgD_length] at this
    rw [rev_get (by rw [rgD_length]; exact hi)] at hd
    rw [rgD_get hd, rgD_length]
    have : a + ((n - 1 - i : Nat) : Int) = a + (n : Int) - 1 + (i : Int) * -1 := by omega
    rw [this]
    exact .int _
  stop := fun i H hi _ => by rw [List.length_reverse, rgD_length] at hi; exact hi
  nol := fun _ _ _ _ => rfl
theorem sndi_revR {e : Expr} {q : Env → Option (Int × Int)} {p1 pos : Pos} (h : SndR X E e q) (hg : Gl X "reversed") (hm : X.mg "reversed" = none) (hs : starEach [e] X.env = (false, eval e X.env) :: starEach [] X.env := by rfl) : SndI X E tg (.Call (.Name "reversed" p1) [e] [] pos) (irevR q) := by
  obtain ⟨t, h1, h2⟩ := h
  refine ⟨_, pi_revR hg hm h1 hs, fun S env σ H R o w => ?_⟩
  unfold irevR at w
  cases hq : q env with
  | none => rw [hq] at w; exact w.elim
  | some ij =>
    obtain ⟨i, j⟩ := ij
    rw [hq] at w
    simp only at w
    split at w
    · rename_i hz
      unfold rgSz at hz
      simp only [Bool.and_eq_true, decide_eq_true_eq] at hz
      exact h2 S env σ H _ i j o hq fun H' e => ⟨by omega, by omega, by omega, by omega, w _ H' _ _ _ e (serves_revR i (j - i).toNat) (fun a o z => z.elim) (fun i hi => ⟨[], .nil, noMem⟩) (fun _ a o z => z.elim) fun a o z => z.elim⟩
    · exact w.elim
/-! ### zip(x, y), enumerate(x) -/
def izip (p q : P) : I := fun env => match args [p, q] env with
  | .ok g [.lst xs, .lst ys] => .ok g ((xs.zip ys).map fun z => .tp0 [z.1, z.2])
  | .ok g [.tup xs, .tup ys] => .ok true ((xs.zip ys).map fun z => .tp0 [z.1, z.2])
  | .ok _ _ => .no
  | .ex x => .ex x
  | .no => .no
def prD (xs ys : List D) (i : Nat) : List D := (xs[i]?).toList ++ (ys[i]?).toList
def prV (xs ys : List V) (i : Nat) : List V := (xs[i]?).toList ++ (ys[i]?).toList
theorem zip_get {xs ys : List D} {i : Nat} {d : D} (h : ((xs.zip ys).map fun z => D.tp0 [z.1, z.2])[i]? = some d) : ∃ x y, xs[i]? = some x ∧ ys[i]? = some y ∧ d = .tp0 [x, y] := by
  rw [List.getElem?_map] at h
  cases e : (xs.zip ys)[i]? with
  | none => rw [e] at h; cases h
  | some z =>
    rw [e] at h
    cases h
    have := List.getElem?_zip_eq_some.mp e
    exact ⟨z.1, z.2, this.1, this.2, rfl⟩
theorem Reps.pair {H : Hp} {x y : D} {v w : V} {as : List Addr} (r : Reps H [x, y] [v, w] as) (T : Addr) (hT : H T = none) : Rep (L2.upd H T (.tup [v, w])) (.tp0 [x, y]) (.ref T) as := .tp0 upd_same (r.mono (Ex.new hT))
theorem serves_zip {K : PySem.W.Frag} {J : It} {xs ys : List D} {vs ws : List V} {Fx : Addr → HO → Prop} (l1 : xs.length = vs.length) (l2 : ys.length = ws.length)
    (go : ∀ i H x y, Holds Fx H → vs[i]? = some x → ws[i]? = some y → J.go i H) (yld : ∀ i H v H', Holds Fx H → J.yld i H v H' → ∃ T x y, v = .ref T ∧ H T = none ∧ H' = L2.upd H T (.tup [x, y]) ∧ vs[i]? = some x ∧ ws[i]? = some y)
    (stop : ∀ i H, Holds Fx H → (vs.length ≤ i ∨ ws.length ≤ i) → J.stop i H) : Serves J Fx ((xs.zip ys).map fun z => .tp0 [z.1, z.2]) (prD xs ys) (prV vs ws) where
  go := fun i H hi hf => by
    rw [List.length_map, List.length_zip] at hi
    exact go i H (vs[i]'(by omega)) (ws[i]'(by omega)) hf (by simp) (by simp)
  yld := fun i H x H' hf hy d hd => by
    obtain ⟨T, v, w, e1, e2, e3, e4, e5⟩ := yld i H x H' hf hy
    subst e1 e3
    obtain ⟨x, y, q1, q2, q3⟩ := zip_get hd
    subst q3
    refine ⟨Ex.new e2, fun as ra => ?_⟩
    simp only [prD, prV, q1, q2, e4, e5, Option.toList, List.cons_append, List.nil_append] at ra
    exact ra.pair T e2
  stop := fun i H hi hf => by
    rw [List.length_map, List.length_zip] at hi
    exact stop i H hf (by omega)
  nol := fun i d h hn => by
    obtain ⟨x, y, q1, q2, q3⟩ := zip_get h
    subst q3
    simp only [prD, q1, q2, Option.toList, List.cons_append, List.nil_append]
    simpa [noL] using hn
theorem reps_pr {S : Addr → Prop} {H H' : Hp} {xs ys : List D} {vs ws : List V} {as bs : List Addr} (r1 : Reps H' xs vs as) (r2 : Reps H' ys ws bs) (m1 : ∀ a ∈ as, S a ∨ H a = none) (m2 : ∀ a ∈ bs, S a ∨ H a = none) : ∀ i, i < ((xs.zip ys).map fun z => D.tp0 [z.1, z.2]).length → ∃ cs, Reps H' (prD xs ys i) (prV vs ws i) cs ∧ ∀ a ∈ cs, S a ∨ H a = none := fun i hi => by
  rw [List.length_map, List.length_zip] at hi
  obtain ⟨c1, h1, h2⟩ := reps_each (S := S) (H := H) r1 m1 i (by omega)
  obtain ⟨c2, h3, h4⟩ := reps_each (S := S) (H := H) r2 m2 i (by omega)
  exact ⟨c1 ++ c2, h1.append h3, fun a ha => (List.mem_append.mp ha).elim (h2 a) (h4 a)⟩
theorem sndi_zip {e e2 : Expr} {p q : P} {p1 pos tpos : Pos} {elts : List Expr} {kk : Nat} (h : SndA X E [e, e2] [p, q]) (hg : Gl X "zip") (hm : X.mg "zip" = none)
    (hs : starEach [e, e2] X.env = (false, eval e X.env) :: starEach [e2] X.env := by rfl) (hpl : (backTo pos (starEach [e2] X.env)).any (·.1) = false := by rfl) : SndI X E (.Tuple elts kk tpos) (.Call (.Name "zip" p1) [e, e2] [] pos) (izip p q) := by
  obtain ⟨t, h1, h2⟩ := h
  refine ⟨_, RZ.pi_zipA hg hm h1 hs hpl, fun S env σ H R o w => h2 S env σ H _ o ?_⟩
  unfold izip at w
  cases hp : args [p, q] env with
  | no => rw [hp] at w; exact w
  | ex x => rw [hp] at w; exact w
  | ok g ds =>
    rw [hp] at w
    intro us H1 as e1 r1 m1 n1
    match ds, w, r1 with
    | [.lst xs, .lst ys], w, r1 =>
      obtain ⟨v, u, bs, cs, q1, q2, q3, q4⟩ := r1.two
      subst q1 q4
      cases q2 with
      | @lst a vs _ as' ha s =>
        cases q3 with
        | @lst b ws _ bs' hb s' =>
          refine ⟨a, b, vs, ws, rfl, .inl ⟨SqL.of ha, SqL.of hb, w _ H1 (fun c o => (c = a ∧ o = .lst vs) ∨ (c = b ∧ o = .lst ws)) _ _ e1 (serves_zip (K := X.K) s.length s'.length (fun i H x y hf hx hy => ⟨vs, ws, x, y, SqL.of (hf a _ (.inl ⟨rfl, rfl⟩)), SqL.of (hf b _ (.inr ⟨rfl, rfl⟩)), hx, hy⟩)
            (fun i H v H' hf ⟨T, x, y, z1, z2, z3, z4, z5⟩ => ⟨T, x, y, z1, z2, z3, z4 vs (SqL.of (hf a _ (.inl ⟨rfl, rfl⟩))), z5 ws (SqL.of (hf b _ (.inr ⟨rfl, rfl⟩)))⟩) (fun i H hf hl => ⟨vs, ws, SqL.of (hf a _ (.inl ⟨rfl, rfl⟩)), SqL.of (hf b _ (.inr ⟨rfl, rfl⟩)), hl⟩))
            (fun c o z => by rcases z with ⟨z1, z2⟩ | ⟨z1, z2⟩ <;> subst z1 z2 <;> assumption) (reps_pr s s' (fun c hc => m1 c (List.mem_append_left _ (List.mem_cons_of_mem _ hc))) fun c hc => m1 c (List.mem_append_right _ (List.mem_cons_of_mem _ hc))) (fun z c o hc => ?_) fun c o hc => ?_⟩⟩
          · rcases hc with ⟨z1, _⟩ | ⟨z1, _⟩ <;> subst z1
            · exact .inl ((n1 z).2 _ (List.mem_append_left _ List.mem_cons_self))
            · exact .inl ((n1 z).2 _ (List.mem_append_right _ List.mem_cons_self))
          · rcases hc with ⟨z1, _⟩ | ⟨z1, _⟩ <;> subst z1
            · exact (m1 _ (List.mem_append_left _ List.mem_cons_self)).imp id .inl
            · exact (m1 _ (List.mem_append_right _ List.mem_cons_self)).imp id .inl
    | [.tup xs, .tup ys], w, r1 =>
      obtain ⟨v, u, bs, cs, q1, q2, q3, q4⟩ := r1.two
      subst q1 q4
      cases q2 with
      | @tup a oa vs _ as' ha hda s =>
        cases q3 with
        | @tup b ob ws _ bs' hb hdb s' =>
          refine ⟨a, b, vs, ws, rfl, .inr ⟨SqT.frz ha, SqT.frz hb, w _ H1 (fun c o => (c = a ∧ o = .frz oa (.tup vs)) ∨ (c = b ∧ o = .frz ob (.tup ws))) _ _ e1 (serves_zip (K := X.K) s.length s'.length (fun i H x y hf hx hy => ⟨vs, ws, x, y, SqT.frz (hf a _ (.inl ⟨rfl, rfl⟩)), SqT.frz (hf b _ (.inr ⟨rfl, rfl⟩)), hx, hy⟩)
            (fun i H v H' hf ⟨T, x, y, z1, z2, z3, z4, z5⟩ => ⟨T, x, y, z1, z2, z3, z4 vs (SqT.frz (hf a _ (.inl ⟨rfl, rfl⟩))), z5 ws (SqT.frz (hf b _ (.inr ⟨rfl, rfl⟩)))⟩) (fun i H hf hl => ⟨vs, ws, SqT.frz (hf a _ (.inl ⟨rfl, rfl⟩)), SqT.frz (hf b _ (.inr ⟨rfl, rfl⟩)), hl⟩))
            (fun c o z => by rcases z with ⟨z1, z2⟩ | ⟨z1, z2⟩ <;> subst z1 z2 <;> assumption) (reps_pr s s' (fun c hc => m1 c (List.mem_append_left _ hc)) fun c hc => m1 c (List.mem_append_right _ hc)) (fun z c o hc => ?_) fun c o hc => ?_⟩⟩
          · rcases hc with ⟨_, z2⟩ | ⟨_, z2⟩ <;> subst z2 <;> exact .inr rfl
          · rcases hc with ⟨_, z2⟩ | ⟨_, z2⟩ <;> subst z2 <;> exact .inr (.inr rfl)
def ienum (p : P) : I := fun env => match p env with
  | .ok f (.lst xs) => .ok f (xs.zipIdx.map fun z => .tp0 [.int (z.2 : Nat), z.1])
  | .ok _ _ => .no
  | .ex x => .ex x
  | .no => .no
theorem enum_get {xs : List D} {i : Nat} {d : D} (h : (xs.zipIdx.map fun z => D.tp0 [.int (z.2 : Nat), z.1])[i]? = some d) : ∃ x, xs[i]? = some x ∧ d = .tp0 [.int (i : Nat), x] := by
  rw [List.getElem?_map, List.getElem?_zipIdx] at h
  cases e : xs[i]? with
  | none => rw [e] at h; cases h
  | some x => rw [e] at h; cases h; exact ⟨x, rfl, by simp⟩
theorem sndi_enum {e : Expr} {p : P} {p1 pos tpos : Pos} {elts : List Expr} {kk : Nat} (h : SndP X E e p) (hg : Gl X "enumerate") (hm : X.mg "enumerate" = none) (hs : starEach [e] X.env = [(false, eval e X.env)] := by rfl) : SndI X E (.Tuple elts kk tpos) (.Call (.Name "enumerate" p1) [e] [] pos) (ienum p) := by
  obtain ⟨t, h1, h2⟩ := h
  refine ⟨_, pi_enum hg hm (pa_cons h1 pa_nil hs) hs, fun S env σ H R o w => h2 S env σ H _ o ?_⟩
  unfold ienum at w
  cases hp : p env with
  | no => rw [hp] at w; exact w
  | ex x => rw [hp] at w; exact w
  | ok f d =>
    rw [hp] at w
    intro v H1 as e1 r1 m1 n1
    cases r1 with
    | @lst a vs xs as' h s =>
      refine ⟨a, vs, rfl, SqL.of h, w _ H1 (fun b o => b = a ∧ o = .lst vs) (fun i => (xs[i]?).toList) (fun i => (vs[i]?).toList) e1 ⟨fun i H hi hf => ?_, fun i H x H' hf hy d hd => ?_, fun i H hi hf => ?_, fun i d hd hn => ?_⟩ (fun b o ⟨z1, z2⟩ => by subst z1 z2; exact h) (fun i hi => reps_each s (fun b hb => m1 b (List.mem_cons_of_mem _ hb)) i (by simpa using hi)) (fun z b o ⟨z1, _⟩ => ?_) fun b o ⟨z1, _⟩ => ?_⟩
      · rw [List.length_map, List.length_zipIdx, s.length] at hi
        exact ⟨vs, vs[i], SqL.of (hf a _ ⟨rfl, rfl⟩), by simp⟩
      · obtain ⟨T, x', e1, e2, e3, e4⟩ := hy
        subst e1 e3
        obtain ⟨y, q1, q2⟩ := enum_get hd
        subst q2
        have e5 := e4 vs (SqL.of (hf a _ ⟨rfl, rfl⟩))
        refine ⟨Ex.new e2, fun as ra => ?_⟩
        simp only [q1, e5, Option.toList] at ra
        obtain ⟨v', ev, rv⟩ := Reps.one ra
        cases ev
        have : Reps H [.int (i : Nat), y] [.int (i : Nat), x'] ([] ++ (as ++ [])) := .cons (.int _) (.cons rv .nil)
        rw [List.nil_append, List.append_nil] at this
        exact this.pair T e2
      · rw [List.length_map, List.length_zipIdx, s.length] at hi
        exact ⟨vs, SqL.of (hf a _ ⟨rfl, rfl⟩), hi⟩
      · obtain ⟨y, q1, q2⟩ := enum_get hd
        subst q2
        simp only [q1, Option.toList, noLs, Bool.and_true]
        simpa [noL, noLs] using hn
      · subst z1; exact .inl ((n1 z).2 _ List.mem_cons_self)
      · subst z1; exact (m1 _ List.mem_cons_self).imp id .inl
    | _ => exact (show False from w).elim
/-! ### in, not in -/
def dInB (x y : D) : Option Bool := match y with
  | .lst ys => if eqOk x && eqOk (.lst ys) then some ((dats ys).any fun z => PyData.eqv z (dat x)) else none
  | .frz ys => if eqOk x && eqOk (.frz ys) then some ((dats ys).any fun z => PyData.eqv z (dat x)) else none
  | .tup ys => match x with
    | .int k => (toInts ys).map fun ns => ns.any fun n => n == k
    | _ => none
  | _ => none
def dIn (x y : D) : Option (Kd × D) := (dInB x y).map fun b => (.new, .bl b)
def dNotIn (x y : D) : Option (Kd × D) := (dInB x y).map fun b => (.new, .bl (!b))
def rInA (K : PySem.W.Frag) : R2 := fun x y H Q => rInD K x y H Q ∨ rIn K false x y H Q
def rNotInA (K : PySem.W.Frag) : R2 := fun x y H Q => rNotInD K x y H Q ∨ rIn K true x y H Q
theorem op_inA (hu : X.A.units + 65 < cLine) : OpR X (compareOp .In) (rInA X.K) := (op_inD hu).or op_in_seq
theorem op_notInA (hu : X.A.units + 65 < cLine) : OpR X (compareOp .NotIn) (rNotInA X.K) := (op_notInD hu).or op_notIn_seq
theorem in_core {K : PySem.W.Frag} {H : Hp} {x y : D} {v w : V} {as bs : List Addr} {b : Bool} (r1 : Rep H x v as) (r2 : Rep H y w bs) (h : dInB x y = some b) :
    (∃ d ds, Dp K H v d ∧ Dp K H w (.list ds) ∧ SeqAt.shaped d = true ∧ SeqAt.shaped (.list ds) = true ∧ b = ds.any fun z => PyData.eqv z d) ∨
    (∃ p xs, w = .ref p ∧ (SqL K H p xs ∨ SqT K H p xs) ∧ flatV v = true ∧ xs.all flatV = true ∧ b = inV v xs) := by
  unfold dInB at h
  have anyI : ∀ (ns : List Int) (k : Int), (ns.any fun n => n == k) = inV (.int k) (ns.map V.int) := fun ns k => by
    unfold inV
    induction ns with
    | nil => rfl
    | cons n ns ih => simp only [List.any_cons, List.map_cons, ih]; rfl
  cases y with
  | lst ys =>
    simp only at h
    split at h
    · rename_i hz
      simp only [Bool.and_eq_true] at hz
      cases h
      exact .inl ⟨dat x, dats ys, r1.dp (lay_of hz.1), r2.dp (lay_of hz.2), hz.1, hz.2, rfl⟩
    · cases h
  | frz ys =>
    simp only at h
    split at h
    · rename_i hz
      simp only [Bool.and_eq_true] at hz
      cases h
      exact .inl ⟨dat x, dats ys, r1.dp (lay_of hz.1), r2.dp (lay_of hz.2), hz.1, hz.2, rfl⟩
    · cases h
  | tup ys =>
    simp only at h
    cases x with
    | int k =>
      simp only at h
      cases hi : toInts ys with
      | none => rw [hi] at h; cases h
      | some ns =>
        rw [hi] at h
        cases h
        have e := toInts_eq hi
        subst e
        cases r1
        cases r2 with
        | @tup a o vs _ _ ha hd s =>
          obtain ⟨ev, _⟩ := s.ints
          subst ev
          refine .inr ⟨a, ns.map V.int, rfl, .inr (SqT.frz ha), rfl, ?_, anyI ns k⟩
          simp [flatV]
    | _ => cases h
  | _ => cases h
theorem v_in (K : PySem.W.Frag) : V2 (rInA K) dIn := by
  intro H x y v w as bs k d Q r1 r2 e q
  unfold dIn at e
  cases hb : dInB x y with
  | none => rw [hb] at e; cases e
  | some b =>
    rw [hb] at e
    cases e
    rcases in_core (K := K) r1 r2 hb with ⟨d, ds, h1, h2, h3, h4, h5⟩ | ⟨p, xs, h1, h2, h3, h4, h5⟩
    · subst h5; exact .inl ⟨d, ds, h1, h2, h3, h4, q _ H [] (Ex.refl H) (.bl _) .nil⟩
    · subst h5; exact .inr ⟨p, xs, h1, h2, h3, h4, q _ H [] (Ex.refl H) (.bl _) .nil⟩
theorem v_notIn (K : PySem.W.Frag) : V2 (rNotInA K) dNotIn := by
  intro H x y v w as bs k d Q r1 r2 e q
  unfold dNotIn at e
  cases hb : dInB x y with
  | none => rw [hb] at e; cases e
  | some b =>
    rw [hb] at e
    cases e
    rcases in_core (K := K) r1 r2 hb with ⟨d, ds, h1, h2, h3, h4, h5⟩ | ⟨p, xs, h1, h2, h3, h4, h5⟩
    · subst h5; exact .inl ⟨d, ds, h1, h2, h3, h4, q _ H [] (Ex.refl H) (.bl _) .nil⟩
    · subst h5; exact .inr ⟨p, xs, h1, h2, h3, h4, q _ H [] (Ex.refl H) (.bl _) .nil⟩
/-! ### -x -/
def dNeg : D → Option (Kd × D)
  | .int i => some (.new, .int (-i))
  | _ => none
theorem snd_neg {e : Expr} {p : P} {pos : Pos} (h : SndP X E e p) : SndP X E (.UnaryOp .USub e pos) (op1 dNeg p) := by
  obtain ⟨t, h1, h2⟩ := h
  refine ⟨_, pe_un un_neg h1, fun S env σ H Q o w => h2 S env σ H _ o ?_⟩
  unfold op1 at w
  cases hp : p env with
  | no => rw [hp] at w; exact w
  | ex x => rw [hp] at w; exact w
  | ok f d =>
    rw [hp] at w
    intro v H1 as e1 r1 m1 n1
    cases r1 with
    | int i => exact ⟨i, rfl, w _ H1 [] e1 (.int _) noMem fun _ => .nil H⟩
    | _ => exact (show False from w).elim
/-! ### xs[::-1] of a list -/
def revLP (p : P) : P := fun env => match p env with
  | .ok f (.lst xs) => .ok (f || noLs xs) (.lst xs.reverse)
  | .ok _ (.frz xs) => .ok true (.lst xs.reverse)
  | .ok _ _ => .no
  | .ex x => .ex x
  | .no => .no
theorem reps_revP {H : Hp} : ∀ {xs : List D} {vs : List V} {as : List Addr}, Reps H xs vs as → ∃ bs, Reps H xs.reverse vs.reverse bs ∧ bs.Perm as
  | _, _, _, .nil => ⟨[], .nil, .refl _⟩
  | _, _, _, .cons (as := as) (bs := bs) r rs => by
    obtain ⟨cs, h1, h2⟩ := reps_revP rs
    refine ⟨cs ++ as, ?_, (List.perm_append_comm).trans (h2.append_left as)⟩
    rw [List.reverse_cons, List.reverse_cons]
    have : Reps H [_] [_] (as ++ []) := .cons r .nil
    rw [List.append_nil] at this
    exact h1.append this
theorem snd_revL {e : Expr} {p : P} {k : Nat} {p1 p2 p3 pos : Pos} (h : SndP X E e p) : SndP X E (.Subscript e (.Slice none none (some (.UnaryOp .USub (.Constant (.int 1) k p1) p2)) p3) pos) (revLP p) := by
  obtain ⟨t, h1, h2⟩ := h
  refine ⟨_, pe_revL h1, fun S env σ H Q o w => h2 S env σ H _ o ?_⟩
  unfold revLP at w
  cases hp : p env with
  | no => rw [hp] at w; exact w
  | ex x => rw [hp] at w; exact w
  | ok f d =>
    rw [hp] at w
    intro v H1 as e1 r1 m1 n1
    cases r1 with
    | @lst a vs xs as' ha s =>
      obtain ⟨bs, rb, pb⟩ := reps_revP s
      refine ⟨a, vs, rfl, SqL.of ha, fun l hl => w _ _ (l :: bs) (e1.trans (Ex.new hl)) (.newL hl rb) (fun b hb => ?_) fun z => ?_⟩
      · rcases List.mem_cons.mp hb with y | y
        · subst y; exact .inr (e1.back hl)
        · exact m1 b (List.mem_cons_of_mem _ (pb.mem_iff.mp y))
      · have nb : bs.Nodup ∧ ∀ b ∈ bs, H b = none := by
          rcases Bool.or_eq_true_iff.mp z with y | y
          · have n := n1 y
            exact ⟨pb.nodup_iff.mpr (List.nodup_cons.mp n.1).2, fun b hb => n.2 b (List.mem_cons_of_mem _ (pb.mem_iff.mp hb))⟩
          · have : as' = [] := s.noL y
            subst this
            have : bs = [] := List.perm_nil.mp pb
            subst this
            exact ⟨List.nodup_nil, fun b hb => nomatch hb⟩
        refine ⟨List.nodup_cons.mpr ⟨fun y => rb.ne l y hl, nb.1⟩, fun b hb => ?_⟩
        rcases List.mem_cons.mp hb with y | y
        · subst y; exact e1.back hl
        · exact nb.2 b y
    | @frz a ob vs xs ha s =>
      obtain ⟨bs, rb, pb⟩ := reps_revP s
      have : bs = [] := List.perm_nil.mp pb
      subst this
      refine ⟨a, vs, rfl, SqL.frz ha, fun l hl => w _ _ [l] (e1.trans (Ex.new hl)) (.newL hl rb) (fun b hb => ?_) fun z => ⟨by simp, fun b hb => ?_⟩⟩
      · simp at hb; subst hb; exact .inr (e1.back hl)
      · simp at hb; subst hb; exact e1.back hl
    | _ => exact (show False from w).elim
/-! ### sum of a list of whole numbers -/
def dSum : List D → Option (Kd × D)
  | [.lst xs] => (toInts xs).map fun ns => (.new, .int ns.sum)
  | _ => none
theorem v_sum (K : PySem.W.Frag) : VN (rSum K) dSum := by
  intro H ds vs as k d Q rs e q
  match ds, e with
  | [.lst xs], e =>
    simp only [dSum] at e
    cases hi : toInts xs with
    | none => rw [hi] at e; cases e
    | some ns =>
      rw [hi] at e
      cases e
      obtain ⟨v, ev, rv⟩ := rs.one
      subst ev
      have e2 := toInts_eq hi
      subst e2
      cases rv with
      | @lst a vs _ as' ha s =>
        obtain ⟨e3, _⟩ := s.ints
        subst e3
        exact ⟨a, ns, rfl, SqL.of ha, q _ H [] (Ex.refl H) (.int _) .nil⟩
end
end CB

namespace CB
open PySem L2 PySem.Spec PyProof.Rows
variable [CT]

section
variable {X : Cx} {E : XK}
/-! ### tests that may change things -/
def notG (m : GE) : GE := fun env => match m env with
  | .ok _ (.bl b) e => .ok true (.bl (!b)) e
  | .ok _ _ _ => .no
  | .ex x e => .ex x e
  | .no => .no
def andG (m n : GE) : GE := fun env => match m env with
  | .ok _ (.bl true) e => n e
  | .ok _ (.bl false) e => .ok true (.bl false) e
  | .ok _ _ _ => .no
  | .ex x e => .ex x e
  | .no => .no
def orG (m n : GE) : GE := fun env => match m env with
  | .ok _ (.bl true) e => .ok true (.bl true) e
  | .ok _ (.bl false) e => n e
  | .ok _ _ _ => .no
  | .ex x e => .ex x e
  | .no => .no
theorem sndtg_not {e1 : Expr} {m : GE} {pos : Pos} (h1 : SndTG X E e1 m) : SndTG X E (.UnaryOp .Not e1 pos) (notG m) := by
  obtain ⟨t, g1, s1⟩ := h1
  refine ⟨_, pt_not g1, fun M N fx pin φ H env σ ts Q g w => s1 M N fx pin φ H env σ ts _ g ?_⟩
  unfold notG at w
  cases hp : m env with
  | no => rw [hp] at w; exact w
  | ex x e => rw [hp] at w; exact w
  | ok f d e =>
    rw [hp] at w
    cases d with
    | bl b => exact fun φ' H' g' => w φ' H' g'
    | _ => exact (show False from w).elim
def SndWG (X : Cx) (E : XK) (e : Expr) (m : GE) : Prop := ∃ t, PW X e t ∧ ∀ M N fx pin φ H env σ ts Q, Good M N fx pin φ H env σ ts → TGWant M N fx pin X.mg σ ts E Q (m env) → t σ H Q
theorem SndWG.t {e : Expr} {m : GE} (h : SndWG X E e m) : SndTG X E e m := let ⟨t, a, b⟩ := h; ⟨t, a.pt, b⟩
theorem sndwg_and1 {e1 : Expr} {m : GE} {pos : Pos} (h1 : SndTG X E e1 m) : SndWG X E (.BoolOp .And [e1] pos) m := let ⟨_, g1, s1⟩ := h1; ⟨_, pw_and1 g1, s1⟩
theorem sndwg_or1 {e1 : Expr} {m : GE} {pos : Pos} (h1 : SndTG X E e1 m) : SndWG X E (.BoolOp .Or [e1] pos) m := let ⟨_, g1, s1⟩ := h1; ⟨_, pw_or1 g1, s1⟩
theorem sndwg_and {e1 e2 : Expr} {rest : List Expr} {m n : GE} {pos : Pos} (h1 : SndTG X E e1 m) (h2 : SndWG X E (.BoolOp .And (e2 :: rest) pos) n) : SndWG X E (.BoolOp .And (e1 :: e2 :: rest) pos) (andG m n) := by
  obtain ⟨t, g1, s1⟩ := h1
  obtain ⟨u, g2, s2⟩ := h2
  refine ⟨_, pw_and g1 g2, fun M N fx pin φ H env σ ts Q g w => s1 M N fx pin φ H env σ ts _ g ?_⟩
  unfold andG at w
  cases hp : m env with
  | no => rw [hp] at w; exact w
  | ex x e => rw [hp] at w; exact w
  | ok f d e =>
    rw [hp] at w
    cases d with
    | bl b =>
      intro φ' H' g'
      cases b with
      | true => exact iteT (s2 M N fx pin φ' H' e σ ts Q g' w)
      | false => exact iteF (w φ' H' g')
    | _ => exact (show False from w).elim
theorem sndwg_or {e1 e2 : Expr} {rest : List Expr} {m n : GE} {pos : Pos} (h1 : SndTG X E e1 m) (h2 : SndWG X E (.BoolOp .Or (e2 :: rest) pos) n) : SndWG X E (.BoolOp .Or (e1 :: e2 :: rest) pos) (orG m n) := by
  obtain ⟨t, g1, s1⟩ := h1
  obtain ⟨u, g2, s2⟩ := h2
  refine ⟨_, pw_or g1 g2, fun M N fx pin φ H env σ ts Q g w => s1 M N fx pin φ H env σ ts _ g ?_⟩
  unfold orG at w
  cases hp : m env with
  | no => rw [hp] at w; exact w
  | ex x e => rw [hp] at w; exact w
  | ok f d e =>
    rw [hp] at w
    cases d with
    | bl b =>
      intro φ' H' g'
      cases b with
      | true => exact iteT (w φ' H' g')
      | false => exact iteF (s2 M N fx pin φ' H' e σ ts Q g' w)
    | _ => exact (show False from w).elim
/-! ### while -/
def loopW (c : GE) (m : SM) : Nat → Env → SR
  | 0, _ => .no
  | n + 1, env => match c env with
    | .ok _ (.bl true) e => match m e with
      | .nx e2 => loopW c m n e2
      | r => r
    | .ok _ (.bl false) e => .nx e
    | .ok _ _ _ => .no
    | .ex x e => .ex x e
    | .no => .no
def whileS (n : Nat) (c : GE) (m : SM) : SM := loopW c m n
theorem snds_while {c : Expr} {body : List Stmt} {p : GE} {m : SM} {pos : Pos} (n : Nat) (hp : PassesOwn (model X.prog X.w) X.A X.env X.xe) (hc : SndTG X E c p) (hb : SndB X E body m) : SndS X E (.While c body [] pos) (whileS n p m) := by
  obtain ⟨tc, c1, c2⟩ := hc
  obtain ⟨tb, b1, b2⟩ := hb
  refine ⟨_, ps_while hp c1 b1, fun M N fx pin φ H env σ ts K g w => ⟨fun k σ H => ∃ φ env, Good M N fx pin φ H env σ ts ∧ SWant M N fx pin X.mg ts E K (loopW p m k env), ⟨n, φ, env, g, w⟩, ?_⟩⟩
  rintro k σ H ⟨φ, env, g, w⟩
  refine c2 M N fx pin φ H env σ ts _ g ?_
  cases k with
  | zero => exact w.elim
  | succ k =>
    simp only [loopW] at w
    cases hp : p env with
    | no => rw [hp] at w; exact w
    | ex x e => rw [hp] at w; exact fun φ' H' c dx g' r => w φ' H' σ c dx g' r
    | ok f d e =>
      rw [hp] at w
      cases d with
      | bl b =>
        intro φ1 H1 g1
        cases b with
        | false => exact iteF (w φ1 H1 σ g1)
        | true =>
          refine iteT ⟨fun σ' H' => ∃ φ env, Good M N fx pin φ H' env σ' ts ∧ SWant M N fx pin X.mg ts E K (loopW p m k env), fun σ' H' h => ⟨k, Nat.lt_succ_self k, h⟩, b2 M N fx pin φ1 H1 e σ ts _ g1 ?_⟩
          simp only at w
          cases hm : m e with
          | no => rw [hm] at w; exact w
          | nx e2 => rw [hm] at w; exact fun φ' H' σ' g' => ⟨φ', e2, g', w⟩
          | rt o d e2 => rw [hm] at w; exact w
          | ex x e2 => rw [hm] at w; exact w
      | _ => exact (show False from w).elim
/-! ### (a, b) = value -/
def unpS (τ : Tgt) (m : GE) : SM := fun env => match m env with
  | .ok _ d e => if noL d then match bindT τ d e with
      | some e' => .nx e'
      | none => .no
    else .no
  | .ex x e => .ex x e
  | .no => .no
theorem snds_unp {tg e : Expr} {τ : Tgt} {m : GE} {pos : Pos} (h : SndE X E e m) (hg : SndG X tg τ) (hs : swapsWithSole [tg] e pos.line X.env = pure false := by rfl) (hw : swappedStores [tg] e X.env = pure none := by rfl)
    (h1 : (assignEach [tg] X.env).map (·.2) = [assign tg X.env] := by rfl) : SndS X E (.Assign [tg] e pos) (unpS τ m) := by
  obtain ⟨t, a1, a2⟩ := h
  obtain ⟨g', b1, b2⟩ := hg
  refine ⟨_, ps_asg a1 b1 hs hw h1, fun M N fx pin φ H env σ ts K g w => a2 M N fx pin φ H env σ ts _ g ?_⟩
  unfold unpS at w
  cases hm : m env with
  | no => rw [hm] at w; exact w
  | ex x e => rw [hm] at w; exact fun φ' H' c dx g' r => w φ' H' σ c dx g' r
  | ok o d e' =>
    rw [hm] at w
    intro φ1 H1 v g1
    simp only at w
    split at w
    · rename_i hn
      cases hb : bindT τ d e' with
      | none => rw [hb] at w; exact w.elim
      | some e2 =>
        rw [hb] at w
        obtain ⟨as, r, _⟩ := g1.tmp ts.length (o, d, v) (by simp)
        have z := r.noL hn
        subst z
        refine b2 v σ H1 d [] _ r (bindT_fits hb) fun σ' ht => ?_
        obtain ⟨φ2, g2⟩ := g1.drop1.bindT r (fun a h => nomatch h) hb ht
        exact w φ2 H1 σ' g2
    · exact w.elim
/-- a, b = x, y -/
def parS (i j : Nat) (ms : List GA) : SM := fun env => match argsG ms env with
  | .ok us e => match valsU e us with
    | some [x, y] => if noL x && noL y then .nx ((e.set i (.val true x)).set j (.val true y)) else .no
    | _ => .no
  | .ex x e => .ex x e
  | .no => .no
theorem Good.setN {M N : Addr → Prop} {fx : Addr → HO → Prop} {pin : Nat → Option V} {φ : Lab} {H : Hp} {env : Env} {σ : L2.St} {ts : List Tmp} {i : Nat} {d : D} {v : V} (g : Good M N fx pin φ H env σ ts) (r : Rep H d v []) : Good M N fx pin (unl φ i) H (env.set i (.val true d)) (σ.set i (some v)) ts := by
  have g' := g.bind1 (i := i) r (fun a h => nomatch h)
  refine ⟨?_, g'.fix, g'.own, g'.free, fun k s h => ?_, g'.tmp⟩
  · exact g.len.set
  · by_cases hk : k = i
    · subst hk
      have hlen : k < env.length := by
        have := (List.getElem?_eq_some_iff.mp h).1
        rwa [List.length_set] at this
      rw [List.getElem?_set_self hlen] at h
      cases h
      exact ⟨v, by rw [List.getElem?_set_self (Nat.lt_of_lt_of_le hlen g.len)], [], r, noMem, noMem, fun _ => List.nodup_nil⟩
    · have h' := h
      rw [List.getElem?_set_ne (Ne.symm hk)] at h'
      exact g'.slot k s (by rw [List.getElem?_set_ne (Ne.symm hk)]; exact h')
theorem snds_par {i j : Nat} {x y : Str} {a b : Expr} {ms : List GA} {px py pt pos : Pos} {kt k2 : Nat} {pt2 : Pos} (hc : X.calm = true) (hN : X.N.Nodup) (hi : X.N[i]? = some x) (hj : X.N[j]? = some y) (hij : i ≠ j) (hx : X.env.scope.names.lookup x = some .local) (hy : X.env.scope.names.lookup y = some .local) (h : SndAG X E [a, b] ms)
    (hw : swappedStores [.Tuple [.Name x px, .Name y py] kt pt] (.Tuple [a, b] k2 pt2) X.env = pure (some [x, y])) (hs : swapsWithSole [.Tuple [.Name x px, .Name y py] kt pt] (.Tuple [a, b] k2 pt2) pos.line X.env = pure false := by rfl) :
    SndS X E (.Assign [.Tuple [.Name x px, .Name y py] kt pt] (.Tuple [a, b] k2 pt2) pos) (parS i j ms) := by
  obtain ⟨t, h1, h2⟩ := h
  refine ⟨_, ps_par hc hN hi hj hij hx hy h1 hw hs, fun M N fx pin φ H env σ ts K g w => h2 M N fx pin φ H env σ ts _ g ?_⟩
  unfold parS at w
  cases hm : argsG ms env with
  | no => rw [hm] at w; exact w
  | ex x e => rw [hm] at w; exact fun φ' H' c dx g' r => w φ' H' σ c dx g' r
  | ok us e' =>
    rw [hm] at w
    intro φ1 H1 vs ws hv g1
    simp only at w
    split at w
    · rename_i d1 d2 hd
      obtain ⟨as, ra⟩ := hv.reps g1 hd
      obtain ⟨v1, v2, bs, cs, e1, r1, r2, _⟩ := ra.two
      subst e1
      split at w
      · rename_i hn
        simp only [Bool.and_eq_true] at hn
        have z1 := r1.noL hn.1
        have z2 := r2.noL hn.2
        subst z1 z2
        exact ⟨v1, v2, rfl, w _ H1 _ ((g1.drops.setN (i := i) r1).setN (i := j) r2)⟩
      · exact w.elim
    · exact w.elim
/-! ### x[i], x[j] = value: items stored one behind another -/
def stIx (i : Nat) (p : P) (d : D) (env : Env) : Option Env := match p env with
  | .ok _ (.int k) => match myLst env i with
    | some (s, xs) => match ixN xs.length k with
      | some j => if noL d then some (env.set i (s.put (.lst (xs.set j d)))) else none
      | none => none
    | none => none
  | _ => none
/-- one item stored -/
theorem stIx_ok {M N : Addr → Prop} {fx : Addr → HO → Prop} {pin : Nat → Option V} {φ : Lab} {H : Hp} {env e' : Env} {σ : L2.St} {ts : List Tmp} {i : Nat} {p : P} {d : D} {v : V} {x : Str} {ix : Expr} {ti : TE} {Q : L2.St → Hp → Prop}
    (i2 : ∀ (S : Addr → Prop) env σ H Q, ObsEnv S H env σ → PWant S X.mg H Q E (p env) → ti σ H Q) (g : Good M N fx pin φ H env σ ts) (r : Rep H d v []) (h : stIx i p d env = some e') (q : ∀ φ' H', (∀ {d' : D} {v' : V}, noL d' = true → Rep H d' v' [] → Rep H' d' v' []) → Good M N fx pin φ' H' e' σ ts → Q σ H') :
    gSub (tVar i) ti rSetL v σ H Q := by
  unfold stIx at h
  cases hp : p env with
  | no => rw [hp] at h; cases h
  | ex x => rw [hp] at h; cases h
  | ok f dk =>
    rw [hp] at h
    cases dk with
    | int k =>
      simp only at h
      split at h
      · rename_i s xs hy
        split at h
        · rename_i j hj
          split at h
          · rename_i hn
            cases h
            obtain ⟨a, vs, as, e1, e2, e3, e4, e5, e6, e7, e8, e9, e10⟩ := myLst_ok g hy
            refine ⟨.ref a, e3, i2 M env σ H _ g.obs ?_⟩
            rw [hp]
            intro vk H2 bk ex2 rk _ _
            cases rk
            have g2 := g.ext ex2
            obtain ⟨a', vs', as', e1, e2, e3', e4, e5, e6, e7, e8, e9, e10⟩ := myLst_ok g2 hy
            rw [e3] at e3'; cases e3'
            obtain ⟨s1, s2, s3, s4⟩ := ixN_seq hj
            obtain ⟨cs, ys, es, c1, c2⟩ := e8.set (r.mono ex2) s2
            have hno := List.nodup_cons.mp e9
            rw [List.append_nil] at c2
            have sub : ∀ b, b ∈ cs ++ es → b ∈ as' := fun b hb => by rw [c1]; simp only [List.mem_append] at hb ⊢; rcases hb with z | z <;> simp [z]
            have nd2 : (cs ++ es).Nodup := by
              have nd := hno.2
              rw [c1] at nd
              exact nd.sublist (List.Sublist.append (List.sublist_append_left cs ys) (List.Sublist.refl es))
            have naa : a ∉ cs ++ es := fun z => hno.1 (sub a z)
            have gg := Good.mut (us := []) (by simpa using g2) (bs := []) (rs := none) (as := a :: (cs ++ es)) e1 e2 e3 e4 e5 e6 (.lst upd_same (c2.upd e6 naa)) (List.nodup_cons.mpr ⟨naa, nd2⟩) (fun b hb => ⟨by simp, ?_⟩) (fun d w e => nomatch e) List.nodup_nil fun b z => nomatch z
            · refine ⟨a, vs', k, j, rfl, rfl, e6, by rw [← e8.length]; exact hj, q _ _ (fun {d' v'} hd' rd => ?_) (by simpa using gg)⟩
              refine (rd.mono ex2).keep fun c u hc hi => ?_
              have : c ≠ a := fun z => by
                subst z
                rcases hi with z | z
                · cases z
                · rw [e6] at hc; cases hc; cases z
              rw [upd_ne this]; exact hc
            · rcases List.mem_cons.mp hb with z | z
              · subst z; exact ⟨e7, .inl e5⟩
              · exact ⟨(e10 b (sub b z)).1, .inl (e10 b (sub b z)).2⟩
          · cases h
        · cases h
      · cases h
    | _ => cases h
def swpS (i : Nat) (p : P) (j : Nat) (q : P) (m : GE) : SM := fun env => match m env with
  | .ok _ (.tup [x, y]) e => if noL x && noL y then match stIx i p x e with
      | some e1 => match stIx j q y e1 with
        | some e2 => .nx e2
        | none => .no
      | none => .no
    else .no
  | .ok _ _ _ => .no
  | .ex x e => .ex x e
  | .no => .no
theorem snds_swp {i j : Nat} {x y : Str} {e ix iy : Expr} {m : GE} {p q : P} {px py psx psy pt pos : Pos} {kt : Nat} (hc : X.calm = true) (hN : X.N[i]? = some x) (hM : X.N[j]? = some y) (hvx : Vis X.env.scope x) (hvy : Vis X.env.scope y) (h : SndE X E e m) (hi : SndP X E ix p) (hj : SndP X E iy q)
    (ha : ∀ v, assign (.Subscript (.Name x px) ix psx) X.env v = (do
      let ov ← holding [v] (eval (.Name x px) X.env)
      let iv ← holding [v, ov] (eval ix X.env)
      standAt psx
      holding [v, ov, iv] (setItem ov iv v)
      release [v, ov, iv] []) := by intro _; rfl)
    (hb : ∀ v, assign (.Subscript (.Name y py) iy psy) X.env v = (do
      let ov ← holding [v] (eval (.Name y py) X.env)
      let iv ← holding [v, ov] (eval iy X.env)
      standAt psy
      holding [v, ov, iv] (setItem ov iv v)
      release [v, ov, iv] []) := by intro _; rfl)
    (hs : swapsWithSole [.Tuple [.Subscript (.Name x px) ix psx, .Subscript (.Name y py) iy psy] kt pt] e pos.line X.env = pure false := by rfl) (hw : swappedStores [.Tuple [.Subscript (.Name x px) ix psx, .Subscript (.Name y py) iy psy] kt pt] e X.env = pure none := by rfl)
    (h1 : (assignEach [.Tuple [.Subscript (.Name x px) ix psx, .Subscript (.Name y py) iy psy] kt pt] X.env).map (·.2) = [assign (.Tuple [.Subscript (.Name x px) ix psx, .Subscript (.Name y py) iy psy] kt pt) X.env] := by rfl)
    (h2 : (assignEach [.Subscript (.Name x px) ix psx, .Subscript (.Name y py) iy psy] X.env).map (·.2) = assign (.Subscript (.Name x px) ix psx) X.env :: (assignEach [.Subscript (.Name y py) iy psy] X.env).map (·.2) := by rfl)
    (h3 : (assignEach [.Subscript (.Name y py) iy psy] X.env).map (·.2) = assign (.Subscript (.Name y py) iy psy) X.env :: (assignEach [] X.env).map (·.2) := by rfl)
    (hn : (assignEach [.Subscript (.Name x px) ix psx, .Subscript (.Name y py) iy psy] X.env).length = 2 := by rfl) (hst : (assignEach [.Subscript (.Name x px) ix psx, .Subscript (.Name y py) iy psy] X.env).findIdx? (·.1) = none := by rfl)
    (hd : (x == ("__debug__" : Str)) = false := by decide) (hcd : (x == ("__classdict__" : Str)) = false := by decide) (hd' : (y == ("__debug__" : Str)) = false := by decide) (hcd' : (y == ("__classdict__" : Str)) = false := by decide) :
    SndS X E (.Assign [.Tuple [.Subscript (.Name x px) ix psx, .Subscript (.Name y py) iy psy] kt pt] e pos) (swpS i p j q m) := by
  obtain ⟨t, a1, a2⟩ := h
  obtain ⟨ti, i1, i2⟩ := hi
  obtain ⟨tj, j1, j2⟩ := hj
  refine ⟨_, ps_asg a1 (pg_tup hc (pgs_cons (pg_sub (pe_var hN hvx hd hcd) i1 set_list ha) (pgs_cons (pg_sub (pe_var hM hvy hd' hcd') j1 set_list hb) pgs_nil h3) h2) hn hst) hs hw h1, fun M N fx pin φ H env σ ts K g w => a2 M N fx pin φ H env σ ts _ g ?_⟩
  unfold swpS at w
  cases hm : m env with
  | no => rw [hm] at w; exact w
  | ex x e => rw [hm] at w; exact fun φ' H' c dx g' r => w φ' H' σ c dx g' r
  | ok o d e' =>
    rw [hm] at w
    intro φ1 H1 v g1
    match d, w with
    | .tup [d1, d2], w =>
      simp only at w
      split at w
      · rename_i hnl
        simp only [Bool.and_eq_true] at hnl
        obtain ⟨as, r, _⟩ := g1.tmp ts.length (o, .tup [d1, d2], v) (by simp)
        cases r with
        | @tup a ob vs _ _ haa hdd s =>
          obtain ⟨v1, v2, bs, cs, e1, r1, r2, _⟩ := s.two
          subst e1
          have z1 := r1.noL hnl.1
          have z2 := r2.noL hnl.2
          subst z1 z2
          refine ⟨a, [v1, v2], rfl, SqT.frz haa, rfl, v1, [v2], rfl, ?_⟩
          cases hs1 : stIx i p d1 e' with
          | none => rw [hs1] at w; exact w.elim
          | some e1 =>
            rw [hs1] at w
            simp only at w
            cases hs2 : stIx j q d2 e1 with
            | none => rw [hs2] at w; exact w.elim
            | some e2 =>
              rw [hs2] at w
              refine stIx_ok (x := x) (ix := ix) i2 g1.drop1 r1 hs1 fun φ2 H2 kp g2 => ?_
              refine ⟨v2, [], rfl, stIx_ok (x := y) (ix := iy) j2 g2 (kp hnl.2 r2) hs2 fun φ3 H3 _ g3 => ⟨rfl, w φ3 H3 σ g3⟩⟩
      · exact w.elim
theorem u65 {k : Nat} {A : Around} (r : RoomG k A) : A.units + 65 < cLine := by have := r.un; omega
/-! ### x.extend(e) -/
def extendG (i : Nat) (m : GE) : GE := fun env => match Env.look env i with
  | some (.lst _) => match m env with
    | .ok o (.lst ys) env1 => match myLst env1 i with
      | some (s, xs) => if (o || noLs ys) && szOk (xs.length + ys.length) then .ok true .non (env1.set i (s.put (.lst (xs ++ ys)))) else .no
      | none => .no
    | .ok _ _ _ => .no
    | .ex x e => .ex x e
    | .no => .no
  | _ => .no
theorem snde_extend {i : Nat} {x : Str} {e : Expr} {m : GE} {p apos cpos : Pos} (hN : X.N[i]? = some x) (hvx : Vis X.env.scope x) (h : SndE X E e m)
    (hbase : attributeBase (.Name x p) ("extend" : Str) X.env (eval (.Name x p) X.env) = eval (.Name x p) X.env := by rfl)
    (hfew : ((backTo cpos (starEach [e] X.env)).all (fun x => !x.1) && (backToKw cpos (keywordEach [] X.env)).all (fun x => x.1.isSome)
      && decide (([e] : List Expr).length + ([] : List Keyword).length + (if ([] : List Keyword).isEmpty then 0 else 1) < 30)) = true := by rfl)
    (hline : (apos.endLine == cpos.line) = true := by rfl) (hs : starEach [e] X.env = (false, eval e X.env) :: starEach [] X.env := by rfl) (hplain : (backTo cpos (starEach [] X.env)).any (·.1) = false := by rfl)
    (hd : (x == ("__debug__" : Str)) = false := by decide) (hcd : (x == ("__classdict__" : Str)) = false := by decide) :
    SndE X E (.Call (.Attribute (.Name x p) ("extend" : Str) apos) [e] [] cpos) (extendG i m) := by
  obtain ⟨t, h1, h2⟩ := h
  refine ⟨_, pe_bm PySem.F.plainAttrs_list PySem.F.slot_list_extend PySem.F.type_list_extend mt_extend (pe_var hN hvx hd hcd) (pa_cons h1 pa_nil hs) hbase hfew hline hs hplain, fun M N fx pin φ H env σ ts Q g w => ?_⟩
  unfold extendG at w
  split at w
  · rename_i xs0 hl
    obtain ⟨a0, vs0, k1, k2⟩ := look_lst g hl
    refine ⟨.ref a0, k1, tyV_list k2, h2 M N fx pin φ H env σ ts _ g ?_⟩
    cases hm : m env with
    | no => rw [hm] at w; exact w
    | ex x e => rw [hm] at w; exact w
    | ok o d env1 =>
      rw [hm] at w
      intro φ1 H1 v g1
      cases d with
      | lst ys =>
        simp only at w
        split at w
        · rename_i s xs hy
          split at w
          · rename_i hz
            simp only [Bool.and_eq_true] at hz
            obtain ⟨a, vs, as, e1, e2, e3, e4, e5, e6, e7, e8, e9, e10⟩ := myLst_ok g1 hy
            rw [k1] at e3; cases e3
            obtain ⟨bs0, r, mm, q, n⟩ := g1.tmp ts.length (o, .lst ys, v) (by simp)
            cases r with
            | @lst b ws _ bs hb rs =>
              have own : bs.Nodup ∧ ∀ c ∈ bs, M c ∧ φ1 c = some (.tmp ts.length) := by
                cases o with
                | true => exact ⟨(List.nodup_cons.mp (n rfl)).2, fun c hc => ⟨mm c (List.mem_cons_of_mem _ hc), q c (List.mem_cons_of_mem _ hc)⟩⟩
                | false =>
                  have z : bs = [] := rs.noL (by simpa using hz.1)
                  subst z
                  exact ⟨List.nodup_nil, noMem⟩
              have hno := List.nodup_cons.mp e9
              have hab : a0 ∉ bs := fun z => by have := (own.2 _ z).2; rw [e5] at this; cases this
              have disj : ∀ c ∈ as, c ∉ bs := fun c hc hc2 => by have := (own.2 _ hc2).2; rw [(e10 c hc).2] at this; cases this
              have naa : a0 ∉ as ++ bs := fun z => (List.mem_append.mp z).elim hno.1 hab
              refine ⟨a0, b, vs, ws, rfl, rfl, e6, hb, szOk_le (by rw [← e8.length, ← rs.length]; exact hz.2), w _ _ _ (g1.mut (us := [(o, .lst ys, .ref b)]) (bs := []) (rs := some (.non, .non)) (as := a0 :: (as ++ bs)) e1 e2 k1 e4 e5 e6 (.lst upd_same ((e8.append rs).upd e6 naa)) (List.nodup_cons.mpr ⟨naa, nodup_snoc hno.2 own.1 disj⟩) (fun c hc => ⟨by simp, ?_⟩) (fun d w e => by cases e; exact .non) List.nodup_nil fun c z => nomatch z)⟩
              rcases List.mem_cons.mp hc with z | z
              · subst z; exact ⟨e7, .inl e5⟩
              · rcases List.mem_append.mp z with z | z
                · exact ⟨(e10 c z).1, .inl (e10 c z).2⟩
                · exact ⟨(own.2 c z).1, .inr (own.2 c z).2⟩
          · exact w.elim
        · exact w.elim
      | _ => exact (show False from w).elim
  · exact w.elim
end
end CB

namespace PySem
section
open PySem PySem.Spec PySem.Calls PyProof.Rows HT
variable {prog : Program} {w : World} {A : Around} {E : Value → Shared → Prop} {s : Shared}
theorem cb_pickRev (xs : Array Value) : ((List.range xs.size).filterMap fun (m : Nat) => xs[(((xs.size : Int) - 1) + (m : Int) * (-1)).toNat]?).toArray = xs.toList.reverse.toArray := by
  congr 1
  have e : (List.range xs.size).filterMap (fun (m : Nat) => xs[(((xs.size : Int) - 1) + (m : Int) * (-1)).toNat]?) = ((List.range xs.size).map fun k => xs.size - 1 - k).filterMap (xs[·]?) := by
    rw [List.filterMap_map]
    have : ∀ l : List Nat, (∀ m ∈ l, m < xs.size) → l.filterMap (fun (m : Nat) => xs[(((xs.size : Int) - 1) + (m : Int) * (-1)).toNat]?) = l.filterMap ((xs[·]?) ∘ fun k => xs.size - 1 - k) := by
      intro l hl
      induction l with
      | nil => rfl
      | cons m l ih =>
        have hm := hl m List.mem_cons_self
        have e1 : (((xs.size : Int) - 1) + (m : Int) * (-1)).toNat = xs.size - 1 - m := by omega
        simp only [List.filterMap_cons, Function.comp, e1]
        rw [ih fun k hk => hl k (List.mem_cons_of_mem _ hk)]
    exact this _ fun m hm => List.mem_range.mp hm
  rw [e, PySem.W.krv_range, List.filterMap_reverse, PySem.W.krv_all]
theorem cb_sliceApplied_rev {sl : Addr} {vl vu vs : Value} {n : Nat} {Q : Int × Int × Nat → Shared → Prop} (hs : s.heap.IsSliceOf sl vl vu vs) (pl : IsPart vl none) (pu : IsPart vu none) (ps : IsPart vs (some (-1)))
    (h : Q ((n : Int) - 1, -1, n) s) : wpAny (model prog w) A (Builtin.Slice.sliceApplied (.ref sl) (pure (n : Int))) Q E s := by
  obtain ⟨os, hos, hcs, hds⟩ := id hs
  unfold Builtin.Slice.sliceApplied Builtin.Slice.sliceFields
  refine wpAny_bind (wpAny_bind (wpAny_field hos hds (x := vl) rfl (wpAny_bind (wpAny_field hos hds (x := vu) rfl (wpAny_bind (wpAny_field hos hds (x := vs) rfl (wpAny_pure ?_)))))))
  refine wpAny_bind (slicePart_ ps ?_)
  show wpAny _ _ (if ((-1 : Int) == 0) = true then _ else _) _ _ s
  rw [if_neg (by decide)]
  refine wpAny_bind (slicePart_ pl (wpAny_bind (slicePart_ pu (wpAny_bind (wpAny_pure ?_)))))
  show wpAny _ _ (match Builtin.Slice.sliceAdjust none none (-1) (n : Int) with | (lo, hi) => pure (lo, (-1 : Int), Builtin.Slice.slicePlaces lo hi (-1))) _ _ s
  have e1 : Builtin.Slice.sliceAdjust none none (-1) (n : Int) = ((n : Int) - 1, -1) := by
    unfold Builtin.Slice.sliceAdjust
    simp
  rw [e1]
  show wpAny _ _ (pure ((n : Int) - 1, (-1 : Int), Builtin.Slice.slicePlaces ((n : Int) - 1) (-1) (-1))) _ _ s
  have e2 : Builtin.Slice.slicePlaces ((n : Int) - 1) (-1) (-1) = n := by
    unfold Builtin.Slice.slicePlaces
    have h1 : ¬ ((-1 : Int) > 0) := by omega
    have h2 : (-(-1 : Int)) = 1 := rfl
    simp only [h1, if_false, h2, Int.ediv_one]
    split <;> omega
  rw [e2]
  exact wpAny_pure h
theorem cb_getItem_tuple_rev {t sl : Addr} {items : Array Value} {vl vu vs : Value} {Q : Value → Shared → Prop} (ht : IsTup s.heap t items) (hs : s.heap.IsSliceOf sl vl vu vs) (pl : IsPart vl none) (pu : IsPart vu none) (ps : IsPart vs (some (-1)))
    (h : Q (.ref s.heap.objs.size) { s with heap := s.heap.push { cls := .type "tuple", data := .seq items.toList.reverse.toArray } })
    (hsz : items.size ≤ sizeLine) : wpAny (model prog w) A (getItem (.ref t) (.ref sl)) Q E s := by
  have htake : sizeOk (.seq items.toList.reverse.toArray) := by
    show items.toList.reverse.toArray.size ≤ sizeLine
    rw [List.size_toArray, List.length_reverse, Array.length_toList]
    exact hsz
  obtain ⟨os, hos, hcs, hds⟩ := id hs
  have hTs : s.TypeIs (.ref sl) "slice" := ⟨os, hos, hcs⟩
  unfold getItem
  try with_reducible refine wpAny_holding ?_
  first | refine wpAny_bind (wpAny_pure ?_) | skip
  refine wpAny_bind (wpAny_sequenceKey ht.typeIs (by decide) ?_)
  refine wpAny_bind (wpAny_callSpecial?_slot (name := Str.ofString "__getitem__") ht.typeIs PyProof.Rows.slot_tuple_getitem
    (wpAny_call_entry PyProof.Rows.slot_tuple_getitem ht.typeIs entry_tuple_getitem ?_ (args_tuple_getitem _ _)))
  show wpAny _ _ (Builtin.Tuple.tupleItemsOf (.ref t) >>= _) _ _ s
  refine wpAny_bind (tupleItemsOf_ ht ?_)
  refine wpAny_bind (wpAny_typeOf hTs ?_)
  rw [if_pos (by decide)]
  refine wpAny_bind (cb_sliceApplied_rev hs pl pu ps ?_)
  show wpAny _ _ (if (((items.size : Int) - 1) == 0 && (-1 : Int) == 1 && items.size == items.size) = true then _ else _) _ _ s
  rw [if_neg (by simp), cb_pickRev]
  first
    | exact wpAny_bind (m := Builtin.Tuple.tupleExact _) (wpAny_newObj_type (wpAny_pure ⟨_, rfl, wpAny_pure h⟩) htake)
    | exact wpAny_bind (m := Builtin.Tuple.tupleExact _) (wpAny_newObj_type (wpAny_bind (wpAny_pure (wpAny_pure ⟨_, rfl, wpAny_pure h⟩))) htake)
    | exact wpAny_bind (wpAny_bind (m := Builtin.Tuple.tupleExact _) (wpAny_newObj_type (wpAny_pure (wpAny_pure ⟨_, rfl, wpAny_pure h⟩)) htake))
    | exact wpAny_bind (wpAny_bind (m := Builtin.Tuple.tupleExact _) (wpAny_newObj_type (wpAny_pure ⟨_, rfl, wpAny_pure h⟩) htake))
end
end PySem
namespace CB
open PySem L2 PySem.Spec PyProof.Rows
variable [CT]
section
variable {X : Cx} {E : XK}
/-! ### x[::-1] of a list or a tuple -/
def tRevA (K : PySem.W.Frag) (te : TE) : TE := fun σ H Q => te σ H fun x H1 => ∃ a xs, x = .ref a ∧ ((SqL K H1 a xs ∧ ∀ p, H1 p = none → Q (.ref p) (upd H1 p (.lst xs.reverse))) ∨ (SqT K H1 a xs ∧ NewT xs.reverse H1 Q))
theorem pe_revA {e : Expr} {te : TE} {k : Nat} {p1 p2 p3 pos : Pos} (he : PE X e te) : PE X (.Subscript e (.Slice none none (some (.UnaryOp .USub (.Constant (.int 1) k p1) p2)) p3) pos) (tRevA X.K te) := by
  refine ⟨fun pins s σ H Q I h => ?_⟩
  refine Subscript_ (thn (he.run pins s σ H _ I h) fun v s1 ⟨x, H1, I1, r1, q1⟩ => ?_)
  obtain ⟨a, xs, ex, q⟩ := q1
  subst ex
  cases r1
  have hst : PO X (some (.UnaryOp .USub (.Constant (.int 1) k p1) p2)) (tPart (tUn (rU fun i => .int (-i)) (tC (.int 1)))) := po_some (pe_un un_neg pe_int)
  refine wpAny_Slice (thn (po_none.run pins s1 σ H1 (fun o H2 => o = none ∧ H2 = H1) I1 ⟨rfl, rfl⟩) fun vl s2 ⟨l, H2, I2, pl, el, e2⟩ => ?_)
  subst el e2
  refine thn (po_none.run pins s2 σ H2 (fun o H3 => o = none ∧ H3 = H2) I2 ⟨rfl, rfl⟩) fun vu s3 ⟨u, H3, I3, pu, eu, e3⟩ => ?_
  subst eu e3
  refine thn (hst.run pins s3 σ H3 (fun o H4 => o = some (-1) ∧ H4 = H3) I3 ⟨1, rfl, -1, rfl, rfl, rfl⟩) fun vs s4 ⟨o, H4, I4, ps, eo, e4⟩ => ?_
  subst eo e4
  have I5 : L2.Inv X pins σ H4 { s4 with heap := s4.heap.push { cls := .type "slice", data := .fields #[vl, vu, vs] } } := I4.kept (t' := s4.toks) fun b ob q => Heap.get?_push_of_some _ q
  show wpAny (model X.prog X.w) X.A (subscriptTail e (.Slice none none (some (.UnaryOp .USub (.Constant (.int 1) k p1) p2)) p3) (.ref a) (.ref s4.heap.objs.size)) (EP X pins σ Q) X.xe { s4 with heap := s4.heap.push { cls := .type "slice", data := .fields #[vl, vu, vs] } }
  rcases q with ⟨hx, q⟩ | ⟨hx, q⟩
  · obtain ⟨its, r, ht, hz⟩ := I5.list hx
    have hlen := r.length
    refine tail_any (ops := [.ref a, .ref s4.heap.objs.size]) ht.isList.typeIs (PySem.slot_list_getitem.lookup) ?_ (by with_unfolding_all rfl)
    refine wpAny_getItem_list_slice ht.isList (Heap.IsSliceOf.new _ vl vu vs) pl pu ps (by decide) ?_ (by rw [List.size_toArray]; omega)
    rw [PySem.W.krv_pick]
    refine ⟨.ref _, _, I5.laid (t' := s4.toks) (o := .lst xs.reverse) (fun b ob q => Heap.get?_push_of_some _ q) (Nat.le_refl _) ?_, rfl, q _ (I5.hok.fresh (Nat.le_refl _))⟩
    exact ⟨by rw [List.length_reverse]; exact hz, _, 0, r.reverse, Heap.get?_push_size _ rfl⟩
  · obtain ⟨its, r, ht, hz⟩ := I5.tuple hx
    have hlen := r.length
    refine tail_any (ops := [.ref a, .ref s4.heap.objs.size]) ht.typeIs (PyProof.Rows.slot_tuple_getitem.lookup) ?_ (by with_unfolding_all rfl)
    refine cb_getItem_tuple_rev ht (Heap.IsSliceOf.new _ vl vu vs) pl pu ps ?_ (by rw [List.size_toArray]; omega)
    have hr : Vals xs.reverse its.reverse := r.reverse
    exact ⟨.ref _, _, Inv.tupF I5 (xs := xs.reverse) (its := its.reverse) hr (by rw [List.length_reverse]; exact hz), rfl, q _ _ (I5.hok.fresh (Nat.le_refl _)) rfl⟩
def revP (p : P) : P := fun env => match p env with
  | .ok f (.lst xs) => .ok (f || noLs xs) (.lst xs.reverse)
  | .ok _ (.frz xs) => .ok true (.lst xs.reverse)
  | .ok f (.tup xs) => .ok (f || noLs xs) (.tup xs.reverse)
  | .ok _ _ => .no
  | .ex x => .ex x
  | .no => .no
theorem snd_revA {e : Expr} {p : P} {k : Nat} {p1 p2 p3 pos : Pos} (h : SndP X E e p) : SndP X E (.Subscript e (.Slice none none (some (.UnaryOp .USub (.Constant (.int 1) k p1) p2)) p3) pos) (revP p) := by
  obtain ⟨t, h1, h2⟩ := h
  refine ⟨_, pe_revA h1, fun S env σ H Q o w => h2 S env σ H _ o ?_⟩
  unfold revP at w
  cases hp : p env with
  | no => rw [hp] at w; exact w
  | ex x => rw [hp] at w; exact w
  | ok f d =>
    rw [hp] at w
    intro v H1 as e1 r1 m1 n1
    have core : ∀ {xs : List D} {as' bs : List Addr} {vs : List V}, Reps H1 xs vs as' → bs.Perm as' → (f = true → New H as') → (f || noLs xs) = true → bs.Nodup ∧ ∀ b ∈ bs, H b = none := by
      intro xs as' bs vs s pb n z
      rcases Bool.or_eq_true_iff.mp z with y | y
      · have n := n y
        exact ⟨pb.nodup_iff.mpr n.1, fun b hb => n.2 b (pb.mem_iff.mp hb)⟩
      · have : as' = [] := s.noL y
        subst this
        have : bs = [] := List.perm_nil.mp pb
        subst this
        exact ⟨List.nodup_nil, fun b hb => nomatch hb⟩
    cases r1 with
    | @lst a vs xs as' ha s =>
      obtain ⟨bs, rb, pb⟩ := reps_revP s
      refine ⟨a, vs, rfl, .inl ⟨SqL.of ha, fun l hl => w _ _ (l :: bs) (e1.trans (Ex.new hl)) (.newL hl rb) (fun b hb => ?_) fun z => ?_⟩⟩
      · rcases List.mem_cons.mp hb with y | y
        · subst y; exact .inr (e1.back hl)
        · exact m1 b (List.mem_cons_of_mem _ (pb.mem_iff.mp y))
      · have nb := core s pb (fun y => ⟨(List.nodup_cons.mp (n1 y).1).2, fun b hb => (n1 y).2 b (List.mem_cons_of_mem _ hb)⟩) z
        refine ⟨List.nodup_cons.mpr ⟨fun y => rb.ne l y hl, nb.1⟩, fun b hb => ?_⟩
        rcases List.mem_cons.mp hb with y | y
        · subst y; exact e1.back hl
        · exact nb.2 b y
    | @frz a ob vs xs ha s =>
      obtain ⟨bs, rb, pb⟩ := reps_revP s
      have : bs = [] := List.perm_nil.mp pb
      subst this
      refine ⟨a, vs, rfl, .inl ⟨SqL.frz ha, fun l hl => w _ _ [l] (e1.trans (Ex.new hl)) (.newL hl rb) (fun b hb => ?_) fun z => ⟨by simp, fun b hb => ?_⟩⟩⟩
      · simp at hb; subst hb; exact .inr (e1.back hl)
      · simp at hb; subst hb; exact e1.back hl
    | @tup a ob vs xs as' ha hd s =>
      obtain ⟨bs, rb, pb⟩ := reps_revP s
      refine ⟨a, vs, rfl, .inr ⟨SqT.frz ha, fun l o' hl ho => w _ _ bs (e1.trans (Ex.new hl)) (.newT hl ho rb) (fun b hb => m1 b (pb.mem_iff.mp hb)) fun z => core s pb n1 z⟩⟩
    | _ => exact (show False from w).elim
/-! ### sum of a list or a tuple of whole numbers -/
def rSumA (K : PySem.W.Frag) : List V → Hp → VK → Prop := fun vs H Q => ∃ (a : Addr) (ns : List Int), vs = [V.ref a] ∧ (SqL K H a (ns.map V.int) ∨ SqT K H a (ns.map V.int)) ∧ Q (.int ns.sum) H
theorem cr_sumA (hc : X.calm = true) : CallR X (.builtin "sum") (rSumA X.K) := by
  intro pins s σ H vs us Q I r h
  obtain ⟨a, ns, rfl, hs | hs, q⟩ := h
  · exact cr_sum hc pins s σ H _ us Q I r ⟨a, ns, rfl, hs, q⟩
  · obtain ⟨its, rv, hl, _⟩ := I.tuple hs
    rw [Vals.ref1 r]
    have hi := rv.ints
    obtain ⟨xs, e⟩ := hi.allInts.items
    have hn : numsOf (intItems xs).toList = ns := by rw [← e]; exact hi.numsOf
    rw [nums_intItems] at hn
    rw [e] at hl
    refine PySem.W.ktm_sumG (I.ok.hd hc) hl fun h' tk t' hk => ?_
    rw [preSum_eq, List.take_of_length_le (by simp), hn]
    exact ⟨.int _, H, I.kept hk, ⟨_, rfl⟩, q⟩
def dSumA : List D → Option (Kd × D)
  | [.lst xs] => (toInts xs).map fun ns => (.new, .int ns.sum)
  | [.tup xs] => (toInts xs).map fun ns => (.new, .int ns.sum)
  | _ => none
theorem v_sumA (K : PySem.W.Frag) : VN (rSumA K) dSumA := by
  intro H ds vs as k d Q rs e q
  match ds, e with
  | [.lst xs], e =>
    simp only [dSumA] at e
    cases hi : toInts xs with
    | none => rw [hi] at e; cases e
    | some ns =>
      rw [hi] at e
      cases e
      obtain ⟨v, ev, rv⟩ := rs.one
      subst ev
      have e2 := toInts_eq hi
      subst e2
      cases rv with
      | @lst a vs _ as' ha s =>
        obtain ⟨e3, _⟩ := s.ints
        subst e3
        exact ⟨a, ns, rfl, .inl (SqL.of ha), q _ H [] (Ex.refl H) (.int _) .nil⟩
  | [.tup xs], e =>
    simp only [dSumA] at e
    cases hi : toInts xs with
    | none => rw [hi] at e; cases e
    | some ns =>
      rw [hi] at e
      cases e
      obtain ⟨v, ev, rv⟩ := rs.one
      subst ev
      have e2 := toInts_eq hi
      subst e2
      cases rv with
      | @tup a o vs _ as' ha hd s =>
        obtain ⟨e3, _⟩ := s.ints
        subst e3
        exact ⟨a, ns, rfl, .inr (SqT.frz ha), q _ H [] (Ex.refl H) (.int _) .nil⟩
end
end CB

namespace CB
open PySem L2 PySem.Spec PyProof.Rows
variable [CT]

/-! ### what is walked may change things -/
abbrev IG := Env → ItR
def IGWant (M N : Addr → Prop) (fx : Addr → HO → Prop) (pin : Nat → Option V) (mg : Str → Option Value) (σ : L2.St) (ts : List Tmp) (E : XK) (R : It → Hp → Prop) : ItR → Prop
  | .ok ds env' => ∀ φ' H' J fi cD cV us, Good M N (fun a o => fx a o ∨ fi a o) pin φ' H' env' σ (ts ++ us) → Serves J fi ds cD cV → (∀ i, i < ds.length → (cD i).length = (cV i).length ∧ ∀ t ∈ shT (cD i) (cV i), t ∈ us) → (∀ t ∈ us, t.1 = false) → R J H'
  | .ex x env' => ∀ φ' H' c dx, Good M N fx pin φ' H' env' σ ts → XR mg x c dx H' → E c dx H'
  | .no => False
def SndIG (X : Cx) (E : XK) (tg iter : Expr) (κ : IG) : Prop := ∃ wi, PI X tg iter wi ∧ ∀ M N fx pin φ H env σ ts R, Good M N fx pin φ H env σ ts → IGWant M N fx pin X.mg σ ts E R (κ env) → wi σ H R
section
variable {X : Cx} {E : XK} {tg : Expr}
theorem sndig_pure {iter : Expr} {ι : I} (ks : List Nat) (h : SndI X E tg iter ι) : SndIG X E tg iter (iterS ks ι) := by
  obtain ⟨wi, i1, i2⟩ := h
  refine ⟨wi, i1, fun M N fx pin φ H env σ ts R g w => iter_open ks i2 g ?_⟩
  cases hι : iterS ks ι env with
  | no => rw [hι] at w; exact w
  | ex x e => rw [hι] at w; exact w
  | ok ds env' => rw [hι] at w; exact fun φ' H' J fi cD cV us _ g' sv hl hus => w φ' H' J fi cD cV us g' sv hl hus
/-- range(e) -/
def irgG (m : GE) : IG := fun env => match m env with
  | .ok _ (.int j) e => if rgSz j then .ok (rgD 0 j.toNat) e else .no
  | .ok _ _ _ => .no
  | .ex x e => .ex x e
  | .no => .no
theorem sndig_range1 {e : Expr} {m : GE} {p1 pos : Pos} (h : SndE X E e m) (hg : Gl X "range") (hm : X.mg "range" = none) (hs : starEach [e] X.env = [(false, eval e X.env)] := by rfl) : SndIG X E tg (.Call (.Name "range" p1) [e] [] pos) (irgG m) := by
  obtain ⟨t, h1, h2⟩ := h
  refine ⟨_, pi_range1 hg hm (pa_cons h1 pa_nil hs) hs, fun M N fx pin φ H env σ ts R g w => h2 M N fx pin φ H env σ ts _ g ?_⟩
  unfold irgG at w
  cases hp : m env with
  | no => rw [hp] at w; exact w
  | ex x e => rw [hp] at w; exact w
  | ok o d e =>
    rw [hp] at w
    intro φ1 H1 v g1
    obtain ⟨as, r, _⟩ := g1.tmp ts.length (o, d, v) (by simp)
    cases r with
    | int j =>
      simp only at w
      split at w
      · rename_i hz
        unfold rgSz at hz
        simp only [Bool.and_eq_true, decide_eq_true_eq] at hz
        refine ⟨j, rfl, by omega, by omega, w φ1 H1 _ (fun _ _ => False) (fun _ => []) (fun _ => []) [] ?_ (serves_range 0 j.toNat) (fun i hi => ⟨rfl, fun t ht => by simp [shT] at ht⟩) (fun t ht => nomatch ht)⟩
        simpa using g1.drop1.fixed (fx' := fun _ _ => False) fun a o z => z.elim
      · exact w.elim
    | _ => exact (show False from w).elim
/-- a value -/
def iseqG (m : GE) : IG := fun env => match m env with
  | .ok _ (.lst xs) e => .ok xs e
  | .ok _ (.tup xs) e => .ok xs e
  | .ok _ (.frz xs) e => .ok xs e
  | .ok _ _ _ => .no
  | .ex x e => .ex x e
  | .no => .no
theorem Good.shareT {M N : Addr → Prop} {fx : Addr → HO → Prop} {pin : Nat → Option V} {φ : Lab} {H : Hp} {env : Env} {σ : L2.St} {ts : List Tmp} {o : Bool} {d : D} {v : V} (g : Good M N fx pin φ H env σ (ts ++ [(o, d, v)])) :
    ∃ φ' as, Good M N fx pin φ' H env σ ts ∧ Rep H d v as ∧ ∀ a ∈ as, M a ∧ φ' a = none := by
  obtain ⟨as, r, m, q, _⟩ := g.tmp ts.length (o, d, v) (by simp)
  refine ⟨fun a => if φ a = some (.tmp ts.length) then none else φ a, as, ?_, r, fun a ha => ⟨m a ha, ?_⟩⟩
  · have oth : ∀ {l : Lb} {o : Bool} {d : D} {v : V}, l ≠ .tmp ts.length → Held φ H M l o d v → Held (fun a => if φ a = some (.tmp ts.length) then none else φ a) H M l o d v := fun {l o d v} hl k => k.keep fun as r q => ⟨r, fun a ha => by
      show (if φ a = some (.tmp ts.length) then none else φ a) = _
      rw [q a ha]
      cases o with
      | true => simp [hl]
      | false => simp⟩
    refine ⟨g.len, fun a o h => ⟨(g.fix a o h).1, ?_⟩, fun a h => g.own a fun z => h ?_, g.free, fun i s h => (g.slot i s h).keep fun o d v k => oth (fun z => nomatch z) k, fun j t h => ?_⟩
    · show (if φ a = some (.tmp ts.length) then none else φ a) = _
      rw [(g.fix a o h).2]; simp
    · show (if φ a = some (.tmp ts.length) then none else φ a) = _
      rw [z]; simp
    · have hj : j < ts.length := (List.getElem?_eq_some_iff.mp h).1
      exact oth (fun z => by cases z; exact absurd hj (Nat.lt_irrefl _)) (g.tmp j t (by rw [List.getElem?_append_left hj]; exact h))
  · show (if φ a = some (.tmp ts.length) then none else φ a) = _
    rw [q a ha]
    cases o <;> simp
theorem noImm_none {M N : Addr → Prop} {fx : Addr → HO → Prop} {pin : Nat → Option V} {φ : Lab} {H : Hp} {env : Env} {σ : L2.St} {ts : List Tmp} (g : Good M N fx pin φ H env σ ts) {a : Addr} {o : HO} (h : H a = some o) (hi : Imm o = true) : φ a = none := by
  cases hq : φ a with
  | none => rfl
  | some l =>
    obtain ⟨_, vs, hv, hj⟩ := g.own a (by rw [hq]; exact fun z => nomatch z)
    rw [h] at hv; cases hv; rw [hj] at hi; cases hi
theorem sndig_val {e : Expr} {m : GE} (h : SndE X E e m) : SndIG X E tg e (iseqG m) := by
  obtain ⟨t, h1, h2⟩ := h
  refine ⟨_, pi_seqF h1, fun M N fx pin φ H env σ ts R g w => h2 M N fx pin φ H env σ ts _ g ?_⟩
  unfold iseqG at w
  cases hp : m env with
  | no => rw [hp] at w; exact w
  | ex x e => rw [hp] at w; exact w
  | ok o d e =>
    rw [hp] at w
    intro φ1 H1 v g1
    obtain ⟨φ2, as, g2, r, ma⟩ := g1.shareT
    have inus : ∀ {xs : List D} {vs : List V}, xs.length = vs.length → ∀ i, i < xs.length → ((xs[i]?).toList).length = ((vs[i]?).toList).length ∧ ∀ t ∈ shT (xs[i]?).toList (vs[i]?).toList, t ∈ shT xs vs := fun {xs vs} hl i hi => by
      have e1 : xs[i]? = some xs[i] := by simp
      have e2 : vs[i]? = some (vs[i]'(by omega)) := by simp
      rw [e1, e2]
      refine ⟨rfl, fun t ht => ?_⟩
      simp [shT] at ht
      subst ht
      unfold shT
      refine List.mem_map.mpr ⟨(xs[i], vs[i]'(by omega)), ?_, rfl⟩
      refine List.mem_iff_getElem?.mpr ⟨i, ?_⟩
      rw [List.getElem?_zip_eq_some]
      exact ⟨e1, e2⟩
    have allf : ∀ {xs : List D} {vs : List V}, ∀ t ∈ shT xs vs, t.1 = false := fun {xs vs} t ht => by
      unfold shT at ht
      obtain ⟨p, _, e⟩ := List.mem_map.mp ht
      rw [← e]
    cases r with
    | @lst a vs xs as' ha s =>
      refine ⟨a, rfl, .inl ⟨vs, SqL.of ha, w φ2 H1 _ (fun b u => b = a ∧ u = .lst vs) _ _ (shT xs vs) ((g2.keepT (s.shd fun b hb => ma b (List.mem_cons_of_mem _ hb))).fixed fun b u ⟨z1, z2⟩ => by subst z1 z2; exact ⟨ha, (ma _ List.mem_cons_self).2⟩) (serves_list s) (inus s.length) allf⟩⟩
    | @frz a ob vs xs ha s =>
      refine ⟨a, rfl, .inl ⟨vs, SqL.frz ha, w φ2 H1 _ (fun b u => b = a ∧ u = .frz ob (.lst vs)) _ _ (shT xs vs) ((g2.keepT (s.shd fun b hb => ma b hb)).fixed fun b u ⟨z1, z2⟩ => by subst z1 z2; exact ⟨ha, noImm_none g2 ha rfl⟩) (serves_frz s) (inus s.length) allf⟩⟩
    | @tup a ob vs xs as' ha hd s =>
      refine ⟨a, rfl, .inr ⟨vs, SqT.frz ha, w φ2 H1 _ (fun b u => b = a ∧ u = .frz ob (.tup vs)) _ _ (shT xs vs) ((g2.keepT (s.shd fun b hb => ma b hb)).fixed fun b u ⟨z1, z2⟩ => by subst z1 z2; exact ⟨ha, noImm_none g2 ha rfl⟩) (serves_tup s) (inus s.length) allf⟩⟩
    | _ => exact (show False from w).elim
/-! for, comprehensions -/
def forG (τ : Tgt) (κ : IG) (m : SM) : SM := fun env => match κ env with
  | .ok ds e => loopS τ m ds e
  | .ex x e => .ex x e
  | .no => .no
theorem snds_forG {iter : Expr} {body : List Stmt} {κ : IG} {τ : Tgt} {m : SM} {pos : Pos} (hp : PassesOwn (model X.prog X.w) X.A X.env X.xe) (hc : X.calm = true) (hi : SndIG X E tg iter κ) (hg : SndG X tg τ) (hb : SndB X E body m)
    (hs : ∀ x, foldedSetIterable iter X.env x = pure x := by intro _; rfl) : SndS X E (.For tg iter body [] pos) (forG τ κ m) := by
  obtain ⟨wi, i1, i2⟩ := hi
  obtain ⟨gg, q1, q2⟩ := hg
  obtain ⟨tb, b1, b2⟩ := hb
  refine ⟨_, ps_for hp hc i1 q1 b1 hs, fun M N fx pin φ H env σ ts K g w => i2 M N fx pin φ H env σ ts _ g ?_⟩
  unfold forG at w
  cases hι : κ env with
  | no => rw [hι] at w; exact w
  | ex x e => rw [hι] at w; exact fun φ' H' c dx g' r => w φ' H' σ c dx g' r
  | ok ds e => rw [hι] at w; exact fun φ' H' J fi cD cV us g' sv hl hus => loop_core b2 q2 sv hl hus g' g.free w
def compK (vs : List Nat) (τ : Tgt) (κ : IG) (t el : GE) : GE := fun env => match κ env with
  | .ok ds env' => loopC vs τ t el ds (wipeE env' vs) []
  | .ex x env' => .ex x env'
  | .no => .no
theorem compK_read {iter : Expr} {κ : IG} {τ : Tgt} {t el : GE} {vs : List Nat} (hi : SndIG X E tg iter κ) (hτ : ∀ i ∈ slotsOf τ, i ∈ vs) :
    ∃ wi, PI X tg iter wi ∧ ∀ M N fx pin φ H env σ ts Q, Good M N fx pin φ H env σ ts → GWant M N fx pin X.mg σ ts E Q (compK vs τ κ t el env) → tLc wi (cG τ) (cTG X.mg t) (cGE X.mg el) vs σ H Q := by
  obtain ⟨wi, i1, i2⟩ := hi
  refine ⟨wi, i1, fun M N fx pin φ H env σ ts Q g w => i2 M N fx pin φ H env σ ts _ g ?_⟩
  unfold compK at w
  cases hι : κ env with
  | no => rw [hι] at w; exact w
  | ex x e => rw [hι] at w; exact w
  | ok ds env' =>
    rw [hι] at w
    intro φ' H' J fi cD cV us g' sv hl hus D hD
    exact loopC_core sv hl hus hτ g' g.free hD w
theorem snde_compK {elt iter : Expr} {ifs : List Expr} {scope : Scope} {own : List (Str × Nat)} {pos : Pos} {κ : IG} {τ : Tgt} {t el : GE} (hc : X.calm = true) (hN : X.N.Nodup) (hi : SndIG X E tg iter κ) (ok : BlkOk X.N X.env.scope scope own)
    (hg : Blk X scope fun Y => SndG Y tg τ) (ht : Blk X scope fun Y => SndTsG Y ifs t) (he : Blk X scope fun Y => SndE Y E0 elt el) (hτ : ∀ i ∈ slotsOf τ, i ∈ own.map (·.2) := by decide) (hs : ∀ x, foldedSetIterable iter X.env x = pure x := by intro _; rfl) :
    SndE X E (.ListComp elt [⟨tg, iter, ifs, 0⟩] scope pos) (compK (own.map (·.2)) τ κ t el) := by
  obtain ⟨wi, h1, h2⟩ := compK_read (t := t) (el := el) hi hτ
  exact ⟨_, pe_lc hc hN h1 ok (fun s H C cl fp => (hg s H C cl fp).c) (fun s H C cl fp => (ht s H C cl fp).c) (fun s H C cl fp => (he s H C cl fp).c) hs, h2⟩
theorem snds_setCK {i : Nat} {y : Str} {py : Pos} {elt iter : Expr} {ifs : List Expr} {scope : Scope} {own : List (Str × Nat)} {pos spos : Pos} {κ : IG} {τ : Tgt} {t el : GE} (hc : X.calm = true) (hN : X.N.Nodup) (hy : X.N[i]? = some y) (hyl : X.env.scope.names.lookup y = some .local)
    (hsw : swapsWith (.ListComp elt [⟨tg, iter, ifs, 0⟩] scope pos) (some (.Name y py)) spos.line X.env = pure true) (hi : SndIG X E tg iter κ) (ok : BlkOk X.N X.env.scope scope own)
    (hg : Blk X scope fun Y => SndG Y tg τ) (ht : Blk X scope fun Y => SndTsG Y ifs t) (he : Blk X scope fun Y => SndE Y E0 elt el) (hτ : ∀ i ∈ slotsOf τ, i ∈ own.map (·.2) := by decide) (hs : ∀ x, foldedSetIterable iter X.env x = pure x := by intro _; rfl) :
    SndS X E (.Assign [.Name y py] (.ListComp elt [⟨tg, iter, ifs, 0⟩] scope pos) spos) (asgS i (compK (own.map (·.2)) τ κ t el)) := by
  obtain ⟨wi, h1, h2⟩ := compK_read (t := t) (el := el) hi hτ
  exact ⟨_, ps_setLc hc hN hy hyl hsw h1 ok (fun s H C cl fp => (hg s H C cl fp).c) (fun s H C cl fp => (ht s H C cl fp).c) (fun s H C cl fp => (he s H C cl fp).c) hs, asg_read i h2⟩
end
section
variable {X : Cx} {E : XK}
/-- sorted(x, reverse=True) -/
theorem snd_sortR {e : Expr} {ps : List P} {p pos kp : Pos} {j : Nat} (hu : X.A.units + 64 < cLine) (hg : Gl X "sorted") (hm : X.mg "sorted" = none) (h : SndA X E [e] ps) : True := trivial
end
end CB

namespace CB
open PySem L2 PySem.Spec PyProof.Rows
variable [CT]
open AutoSeq1 (wpAny_loadPart')

/-! ### enumerate of a tuple -/
set_option maxHeartbeats 4000000 in
theorem meets_enum_newT (l : Addr) (items : Array Value) (n : Nat) (dct : Option Addr) (sl : Array (Option Value)) :
    Meets (Builtin.«enumerate.__new__» ⟨[.type "enumerate", .ref l], []⟩) (fun _ R s => s.heap.get? l = some { cls := .type "tuple", dict := dct, data := .seq items n, slots := sl } ∧
      R (.ok (.ret (.ref (s.heap.push { cls := .type "tuple_iterator", data := .fields #[.ref l, .int 0 0] }).objs.size)))
        { s with heap := (s.heap.push { cls := .type "tuple_iterator", data := .fields #[.ref l, .int 0 0] }).push { cls := .type "enumerate", data := .fields #[.none, .bool false, .ref s.heap.objs.size, rawInt 0, .none, .none] } }) :=
  .of_wp fun prog w A R s h => by
    obtain ⟨hp, g, d, tk, os⟩ := s; obtain ⟨hl, h⟩ := h
    have hsub := sub_enumerate
    have hL : Heap.IsTuple (Shared.heap ⟨hp, g, d, tk, os⟩) l items := ⟨_, hl, rfl, n, rfl⟩
    wp_walk using wpAny_loadPart' hl
    refine wpAny_stack_any fun st => wpAny_pure ?_
    split
    · rename_i c _ _ _ _ _
      cases (c == Value.type "enumerate")
      · wp_walk using wpAny_loadPart' hl, wpAny_pyIter_tuple hL
        exact ⟨_, rfl, h⟩
      · wp_walk using wpAny_loadPart' hl, wpAny_pyIter_tuple hL
        exact ⟨_, rfl, h⟩
    · wp_walk using wpAny_loadPart' hl, wpAny_pyIter_tuple hL
      exact ⟨_, rfl, h⟩
section
variable {prog : Program} {w : World} {A : Around} {E : Value → Shared → Prop} {s : Shared}
theorem call_enum_tuple {l : Addr} {items : Array Value} {Q : Value → Shared → Prop} (hL : s.heap.IsTuple l items)
    (h : ∀ h', IsEnum h' (s.heap.objs.size + 1) s.heap.objs.size 0 .none → h'.IsTupleIter s.heap.objs.size l 0 → h'.objs.size = s.heap.objs.size + 2 →
      (∀ b o, s.heap.get? b = some o → h'.get? b = some o) → Q (.ref (s.heap.objs.size + 1)) { s with heap := h' }) :
    wpAny (model prog w) A (call (.type "enumerate") [.ref l]) Q E s := by
  obtain ⟨⟨c, dct, dt, sl⟩, hl, hc, n, hd⟩ := hL
  replace hc : c = .type "tuple" := hc
  replace hd : dt = .seq items n := hd
  subst hc hd
  refine callType_new F.called_enumerate (by decide) (F.typeCall_enumerate_1 _) (F.newCall_enumerate_1 _) (fun obj => F.args_object_init_2 obj _) F.entry_enumerate_new
    (meets_enum_newT l items n dct sl) ⟨hl, ?_⟩
  have hz : (s.heap.push { cls := .type "tuple_iterator", data := .fields #[.ref l, .int 0 0] }).objs.size = s.heap.objs.size + 1 := Heap.size_push ..
  show _ ∧ _
  rw [hz]
  have he : IsEnum ((s.heap.push { cls := .type "tuple_iterator", data := .fields #[.ref l, .int 0 0] }).push
      { cls := .type "enumerate", data := .fields #[.none, .bool false, .ref s.heap.objs.size, rawInt 0, .none, .none] }) (s.heap.objs.size + 1) s.heap.objs.size 0 .none := by
    have := Heap.get?_push_size (s.heap.push { cls := .type "tuple_iterator", data := .fields #[.ref l, .int 0 0] })
      (o := { cls := .type "enumerate", data := .fields #[.none, .bool false, .ref s.heap.objs.size, rawInt 0, .none, .none] }) rfl
    rw [hz] at this; exact this
  refine ⟨⟨_, he, rfl⟩, h _ he ⟨_, Heap.get?_push_of_some _ (Heap.get?_push_size _ rfl), rfl, rfl⟩ (by rw [Heap.size_push, hz]) fun b o x => Heap.get?_push_of_some _ (Heap.get?_push_of_some _ x)⟩
end
section
variable {prog : Program} {w : World} {A : Around} {E : Value → Shared → Prop} {s : Shared}
theorem enumT_end {e it l : Addr} {i : Nat} {items : Array Value} {old : Value} {Q : Option Value → Shared → Prop} (hh : A.handled = none)
    (he : IsEnum s.heap e it i old) (hit : s.heap.IsTupleIter it l i) (hl : s.heap.IsTuple l items) (hx : items[i]? = none)
    (hQ : ∀ h', Heap.ExtBut it s.heap h' → Q none { s with heap := h' }) : wpAny (model prog w) A (pyNext (.ref e)) Q E s := by
  have hT : s.TypeIs (.ref e) "enumerate" := ⟨_, he, rfl⟩
  unfold pyNext
  refine wpAny_bind (wpAny_attempt (wpAny_callSpecial?_slot (name := Str.ofString "__next__") hT F.slot_enumerate_next
    (wpAny_call_entry F.slot_enumerate_next hT F.entry_enumerate_next ?_ (F.args_enumerate_next_1 _))))
  show wpAny _ _ (field (.ref e) 2 >>= _) _ _ _
  refine wpAny_bind (wpAny_field he rfl (x := .ref it) rfl ?_)
  refine wpAny_bind (wpAny_nextOf_tuple_end hh hit hl hx fun h' x he' hx' => ?_)
  obtain ⟨o, ho, hc⟩ := hx'
  refine wpAny_bind (wpAny_isInstance (T := "StopIteration") (b := true) ⟨o, ho, hc⟩ isSubtype_stop ?_)
  exact wpAny_pure (hQ _ he')
end
/-- the tuple at a, each item in a new pair -/
def IteT (K : PySem.W.Frag) (a : Addr) : It :=
  ⟨fun i H => ∃ (xs : List V) (x : V), SqT K H a xs ∧ xs[i]? = some x, fun i H v H' => ∃ T x, v = .ref T ∧ H T = none ∧ H' = upd H T (.tup [.int (i : Nat), x]) ∧ ∀ xs, SqT K H a xs → xs[i]? = some x, fun i H => ∃ xs : List V, SqT K H a xs ∧ xs.length ≤ i⟩
theorem turn_enumT {P : Program} {w : World} {K : PySem.W.Frag} {elts : List Expr} {kk : Nat} {tpos : Pos} (a e it : Addr) :
    Turn P w K (.Tuple elts kk tpos) (IteT K a) [e, it] e (fun i h => (∃ old, IsEnum h e it ((i : Nat) : Int) old) ∧ h.IsTupleIter it a i ∧ e ≠ it ∧ a ≠ it ∧ e ≠ a) where
  mem := by simp
  obj := fun i h st b hb => by
    obtain ⟨⟨old, he⟩, ⟨o, ho, hc, hd⟩, _⟩ := st
    have e' : b = e ∨ b = it := by simpa using hb
    rcases e' with z | z
    · rw [z]; exact ⟨_, he, fun v q => nomatch q⟩
    · rw [z]; exact ⟨o, ho, fun v q => by rw [hd] at q; cases q⟩
  keep := fun i h h' st k => let ⟨⟨old, he⟩, hi, hne⟩ := st; ⟨⟨old, k e (by simp) _ he⟩, hi.at fun o q => k it (by simp) o q, hne⟩
  item := by
    intro X hP hw hK hc i pins s σ H E I hf st hg
    subst hP hw hK
    obtain ⟨⟨old, he⟩, hit, hne, hna, hea⟩ := st
    obtain ⟨xs, x, hq, hx⟩ := hg
    obtain ⟨its, rv, p, hz⟩ := I.tuple hq
    obtain ⟨u, hu, ru⟩ := rv.get hx
    have hel : e < s.heap.objs.size := Heap.lt_size he
    have hil : it < s.heap.objs.size := by obtain ⟨_, q, _⟩ := hit; exact Heap.lt_size q
    have hu' : its.toArray[i]? = some u := by simpa using hu
    have D := Draws.tuple (prog := X.prog) (w := X.w) (A := X.A.in1) (I.ok.hd hc) it a hna its.toArray
    have hlt : i < its.toArray.size := by
      rcases Nat.lt_or_ge i its.toArray.size with q | q
      · exact q
      · rw [Array.getElem?_eq_none q] at hu'; cases hu'
    refine wpAny_pyNext_enum_itemD D he ⟨hit, p⟩ hlt hne (by simp [hne, hea]) fun x0 h' tk hP ho hst' hT hsz hk => ?_
    have ex0 : x0 = u := by rw [hu'] at hP; exact (Option.some.inj hP).symm
    subst ex0
    refine ⟨_, rfl, wpAny_letOwnedTupleGo_enum (s := { s with heap := h', toks := tk + 1 }) ho fun h'' he' sb => ?_⟩
    have hT2 : h''.get? s.heap.objs.size = some { cls := .type "tuple", data := .seq #[.int i tk, x0] } := (sb.2 _ (Nat.ne_of_gt hel)).trans hT
    have new : ObjOk X.prog X.w (upd H s.heap.objs.size (.tup [.int (i : Nat), x])) h'' s.heap.objs.size (.tup [.int (i : Nat), x]) :=
      ⟨by show 2 ≤ sizeLine; decide, [.int i tk, x0], .cons ⟨_, rfl⟩ (.cons ru .nil), ⟨_, hT2, rfl, _, rfl⟩⟩
    have I1 : L2.Inv X pins σ (upd H s.heap.objs.size (.tup [.int (i : Nat), x])) { s with heap := h'', toks := tk + 1 } :=
      I.turnedNew (ch := [e, it]) (fun b ob hb q => (sb.2 b (fun z => hb (by simp [z]))).trans (hk b ob (fun z => hb (by simp [z])) (fun z => hb (by simp [z])) q)) hf (Nat.le_refl _) new
    refine ⟨.ref s.heap.objs.size, _, I1, rfl, ⟨_, x, rfl, I.hok.fresh (Nat.le_refl _), rfl, fun ys hy => by rw [I.tuple_inj hy hq]; exact hx⟩, ⟨⟨x0, ?_⟩, hst'.1.at fun o q => (sb.2 it (Ne.symm hne)).trans q, hne, hna, hea⟩, fun b hb => ?_⟩
    · have e1 : ((i + 1 : Nat) : Int) = (i : Int) + 1 := by omega
      rw [e1]; exact he'
    · have hb' : b < s.heap.objs.size := by
        have e' : b = e ∨ b = it := by simpa using hb
        rcases e' with z | z
        · rw [z]; exact hel
        · rw [z]; exact hil
      rw [upd_ne (Nat.ne_of_lt hb')]
      exact (hf b hb).1
  done := by
    intro X hP hw hK hc i pins s σ H E I hf st hg
    subst hP hw hK
    obtain ⟨⟨old, he⟩, hit, hne, hna, hea⟩ := st
    obtain ⟨xs, hq, hx⟩ := hg
    obtain ⟨its, rv, p, hz⟩ := I.tuple hq
    obtain ⟨f0, f1, f2, f3, f4, f5⟩ := hf it (by simp)
    have hl := rv.length
    exact enumT_end (I.ok.hd hc) he hit p (by simp; omega) fun h' eb => ⟨rfl, I.turned (t' := s.toks) (fun b o hb q => eb b o hb q) f0 f1 f3 f4 f5⟩
  self := fun A i s Q E st h => let ⟨⟨_, he⟩, _⟩ := st; wpAny_pyIter_enum he h
def iEnumA (K : PySem.W.Frag) (ta : TA) : TI := fun σ H R => ta σ H fun vs H1 => ∃ a, vs = [.ref a] ∧ ((∃ xs, SqL K H1 a xs ∧ R (Ite K a) H1) ∨ ∃ xs, SqT K H1 a xs ∧ R (IteT K a) H1)
theorem pi_enumA {X : Cx} {e : Expr} {ta : TA} {p pos tpos : Pos} {elts : List Expr} {kk : Nat} (hg : Gl X "enumerate") (hm : X.mg "enumerate" = none) (ha : PA X [e] ta) (hs : starEach [e] X.env = [(false, eval e X.env)] := by rfl) :
    PI X (.Tuple elts kk tpos) (.Call (.Name "enumerate" p) [e] [] pos) (iEnumA X.K ta) := by
  refine ⟨fun pins s σ H R I h => ?_⟩
  refine Call_ (ld_blt I hg hm boot_enumerate (PyProof.Rows.callWith_type1 (thn (ha.run pos pins s σ H _ I h) fun us s1 ⟨vs, H1, I1, r1, q1⟩ => ?_) hs rfl))
  obtain ⟨a, ex, q1⟩ := q1
  subst ex
  cases r1 with
  | cons r rr =>
    cases rr
    cases r
    rcases q1 with ⟨xs, hq, q⟩ | ⟨xs, hq, q⟩
    · obtain ⟨its, rv, p', hz⟩ := I1.list hq
      refine call_enumerate_list p'.isList fun h' he hit hsz hk => wpAny_pyIter_enum he ?_
      have I2 : L2.Inv X pins σ H1 { s1 with heap := h' } := I1.kept (t' := s1.toks) hk
      refine ⟨s1.heap.objs.size + 1, [s1.heap.objs.size + 1, s1.heap.objs.size], _, _, H1, rfl, I2, turn_enum a (s1.heap.objs.size + 1) s1.heap.objs.size, ⟨⟨.none, he⟩, hit, Nat.succ_ne_self _⟩, fun b hb => ?_, q⟩
      have e' : b = s1.heap.objs.size + 1 ∨ b = s1.heap.objs.size := by simpa using hb
      have hle : s1.heap.objs.size ≤ b := by
        rcases e' with z | z
        · rw [z]; exact Nat.le_add_right _ _
        · rw [z]; exact Nat.le_refl _
      exact I1.fpOk hle (I1.hok.fresh hle)
    · obtain ⟨its, rv, p', hz⟩ := I1.tuple hq
      have hla : a < s1.heap.objs.size := by obtain ⟨o, q, _⟩ := (show s1.heap.IsTuple a its.toArray from p'); exact Heap.lt_size q
      refine call_enum_tuple p' fun h' he hit hsz hk => wpAny_pyIter_enum he ?_
      have I2 : L2.Inv X pins σ H1 { s1 with heap := h' } := I1.kept (t' := s1.toks) hk
      refine ⟨s1.heap.objs.size + 1, [s1.heap.objs.size + 1, s1.heap.objs.size], _, _, H1, rfl, I2, turn_enumT a (s1.heap.objs.size + 1) s1.heap.objs.size, ⟨⟨.none, he⟩, hit, Nat.succ_ne_self _, Nat.ne_of_lt hla, Ne.symm (Nat.ne_of_lt (Nat.lt_succ_of_lt hla))⟩, fun b hb => ?_, q⟩
      have e' : b = s1.heap.objs.size + 1 ∨ b = s1.heap.objs.size := by simpa using hb
      have hle : s1.heap.objs.size ≤ b := by
        rcases e' with z | z
        · rw [z]; exact Nat.le_add_right _ _
        · rw [z]; exact Nat.le_refl _
      exact I1.fpOk hle (I1.hok.fresh hle)
def ienumA (p : P) : I := fun env => match p env with
  | .ok f (.lst xs) => .ok f (xs.zipIdx.map fun z => .tp0 [.int (z.2 : Nat), z.1])
  | .ok _ (.tup xs) => .ok true (xs.zipIdx.map fun z => .tp0 [.int (z.2 : Nat), z.1])
  | .ok _ _ => .no
  | .ex x => .ex x
  | .no => .no
section
variable {X : Cx} {E : XK}
theorem sndi_enumA {e : Expr} {p : P} {p1 pos tpos : Pos} {elts : List Expr} {kk : Nat} (h : SndP X E e p) (hg : Gl X "enumerate") (hm : X.mg "enumerate" = none) (hs : starEach [e] X.env = [(false, eval e X.env)] := by rfl) : SndI X E (.Tuple elts kk tpos) (.Call (.Name "enumerate" p1) [e] [] pos) (ienumA p) := by
  obtain ⟨t, h1, h2⟩ := h
  refine ⟨_, pi_enumA hg hm (pa_cons h1 pa_nil hs) hs, fun S env σ H R o w => h2 S env σ H _ o ?_⟩
  unfold ienumA at w
  cases hp : p env with
  | no => rw [hp] at w; exact w
  | ex x => rw [hp] at w; exact w
  | ok f d =>
    rw [hp] at w
    intro v H1 as e1 r1 m1 n1
    cases r1 with
    | @lst a vs xs as' h s =>
      refine ⟨a, rfl, .inl ⟨vs, SqL.of h, w _ H1 (fun b o => b = a ∧ o = .lst vs) (fun i => (xs[i]?).toList) (fun i => (vs[i]?).toList) e1 ⟨fun i H hi hf => ?_, fun i H x H' hf hy d hd => ?_, fun i H hi hf => ?_, fun i d hd hn => ?_⟩ (fun b o ⟨z1, z2⟩ => by subst z1 z2; exact h) (fun i hi => reps_each s (fun b hb => m1 b (List.mem_cons_of_mem _ hb)) i (by simpa using hi)) (fun z b o ⟨z1, _⟩ => ?_) fun b o ⟨z1, _⟩ => ?_⟩⟩
      · rw [List.length_map, List.length_zipIdx, s.length] at hi
        exact ⟨vs, vs[i], SqL.of (hf a _ ⟨rfl, rfl⟩), by simp⟩
      · obtain ⟨T, x', e1, e2, e3, e4⟩ := hy
        subst e1 e3
        obtain ⟨y, q1, q2⟩ := enum_get hd
        subst q2
        have e5 := e4 vs (SqL.of (hf a _ ⟨rfl, rfl⟩))
        refine ⟨Ex.new e2, fun as ra => ?_⟩
        simp only [q1, e5, Option.toList] at ra
        obtain ⟨v', ev, rv⟩ := Reps.one ra
        cases ev
        have : Reps H [.int (i : Nat), y] [.int (i : Nat), x'] ([] ++ (as ++ [])) := .cons (.int _) (.cons rv .nil)
        rw [List.nil_append, List.append_nil] at this
        exact this.pair T e2
      · rw [List.length_map, List.length_zipIdx, s.length] at hi
        exact ⟨vs, SqL.of (hf a _ ⟨rfl, rfl⟩), hi⟩
      · obtain ⟨y, q1, q2⟩ := enum_get hd
        subst q2
        simp only [q1, Option.toList, noLs, Bool.and_true]
        simpa [noL, noLs] using hn
      · subst z1; exact .inl ((n1 z).2 _ List.mem_cons_self)
      · subst z1; exact (m1 _ List.mem_cons_self).imp id .inl
    | @tup a ob vs xs as' h hd0 s =>
      refine ⟨a, rfl, .inr ⟨vs, SqT.frz h, w _ H1 (fun b o => b = a ∧ o = .frz ob (.tup vs)) (fun i => (xs[i]?).toList) (fun i => (vs[i]?).toList) e1 ⟨fun i H hi hf => ?_, fun i H x H' hf hy d hd => ?_, fun i H hi hf => ?_, fun i d hd hn => ?_⟩ (fun b o ⟨z1, z2⟩ => by subst z1 z2; exact h) (fun i hi => reps_each s (fun b hb => m1 b hb) i (by simpa using hi)) (fun z b o ⟨_, z1⟩ => ?_) fun b o ⟨_, z1⟩ => ?_⟩⟩
      · rw [List.length_map, List.length_zipIdx, s.length] at hi
        exact ⟨vs, vs[i], SqT.frz (hf a _ ⟨rfl, rfl⟩), by simp⟩
      · obtain ⟨T, x', e1, e2, e3, e4⟩ := hy
        subst e1 e3
        obtain ⟨y, q1, q2⟩ := enum_get hd
        subst q2
        have e5 := e4 vs (SqT.frz (hf a _ ⟨rfl, rfl⟩))
        refine ⟨Ex.new e2, fun as ra => ?_⟩
        simp only [q1, e5, Option.toList] at ra
        obtain ⟨v', ev, rv⟩ := Reps.one ra
        cases ev
        have : Reps H [.int (i : Nat), y] [.int (i : Nat), x'] ([] ++ (as ++ [])) := .cons (.int _) (.cons rv .nil)
        rw [List.nil_append, List.append_nil] at this
        exact this.pair T e2
      · rw [List.length_map, List.length_zipIdx, s.length] at hi
        exact ⟨vs, SqT.frz (hf a _ ⟨rfl, rfl⟩), hi⟩
      · obtain ⟨y, q1, q2⟩ := enum_get hd
        subst q2
        simp only [q1, Option.toList, noLs, Bool.and_true]
        simpa [noL, noLs] using hn
      · subst z1; exact .inr rfl
      · subst z1; exact .inr (.inr rfl)
    | _ => exact (show False from w).elim
end
end CB

namespace CB
open PySem L2 PySem.Spec PyProof.Rows
variable [CT]

/-! ### an untracked object comes into sight -/
section
variable {X : Cx} {pins : List (Addr × Obj)} {σ : L2.St} {H : Hp} {s : Shared} {a : Addr} {oe : Obj} {vs : Array Value}
theorem Inv.track (I : Inv X ((a, oe) :: pins) σ H s) (hd : oe.data = .fields vs) (ne : ∀ p ∈ X.pn ++ pins, p.1 ≠ a) (h0 : ∀ o, X.s_0.heap.get? a = some o → X.H_0 a = none → a ∉ X.ex → False) :
    Inv X pins σ (upd H a (.frz oe (.own a))) s := by
  obtain ⟨ha, na, nL, nF, _⟩ := I.pin (a, oe) (List.mem_append_right _ List.mem_cons_self)
  have nn : ∀ b o, H b = some o → b ≠ a := fun b o e z => by rw [z] at e; rw [na] at e; cases e
  refine ⟨I.ok, I.os, I.bare, ⟨I.base.keep, I.base.slot, fun b o e n hx => ?_, I.base.there, fun b xs e => ?_, fun b o u e => ?_, fun b ps e => ?_⟩, I.loc, I.cell, ?_, fun x c e => ?_, fun p hp => ?_, fun b o e => ?_, I.len⟩
  · by_cases z : b = a
    · subst z; exact (h0 o e n hx).elim
    · rw [upd_ne z]; exact I.base.free b o e n hx
  · have q := I.base.tups b xs e
    rw [upd_ne (nn b _ q)]; exact q
  · have q := I.base.frzs b o u e
    rw [upd_ne (nn b _ q)]; exact q
  · obtain ⟨more, q⟩ := I.base.tbls b ps e
    exact ⟨more, by rw [upd_ne (nn b _ q)]; exact q⟩
  · rw [upd_ne (Ne.symm nL)]; exact I.free
  · have z : c ≠ a := by
      rintro rfl
      obtain ⟨v, o, e1, e2⟩ := I.cell x c e
      rw [ha] at e1; cases e1
      first
        | (rw [hd] at e2; cases e2)
        | (have := e2.1; rw [hd] at this; cases this)
    rw [upd_ne z]; exact I.freeC x c e
  · have hp' : p ∈ X.pn ++ (a, oe) :: pins := by
      rcases List.mem_append.mp hp with h | h
      · exact List.mem_append_left _ h
      · exact List.mem_append_right _ (List.mem_cons_of_mem _ h)
    obtain ⟨e1, e2, e3⟩ := I.pin p hp'
    exact ⟨e1, by rw [upd_ne (ne p hp)]; exact e2, e3⟩
  · by_cases z : b = a
    · subst z
      rw [upd_same] at e
      cases e
      exact ⟨ha, oe, ha⟩
    · rw [upd_ne z] at e
      exact (I.hok b o e).stay (fun _ _ _ r => r) (fun c r => by rw [upd_ne (nn c _ r)]; exact r) fun c xs r => by rw [upd_ne (nn c _ r)]; exact r
end

/-! ### try: body, except x as n: y = n -/
/-- the exception's object is kept -/
def wK (K : PySem.W.Frag) (c : Value) (i j : Nat) (Wout : WX) (D : Ends) : WX := fun cls d σ H =>
  ∃ b, PySem.W.exmOne K cls c = some b ∧ (b = true → ∀ a oe, H a = none → Zc cls d oe → (∃ vs, oe.data = .fields vs) → D.nx (((σ.set i (some (.ref a))).set j (some (.ref a))).set i none) (upd H a (.frz oe (.own a)))) ∧ (b = false → Wout cls d σ H)
section
variable {X : Cx} {x n y : Str} {c : Value} {i j : Nat} {body : List Stmt} {np p1 p2 p3 pos pos' : Pos} {tb : WX → TS} {Wout : WX}
theorem ps_try_keep (hs : X.stack = X.env :: X.outer) (hf : X.env.frame = some X.env.locals) (hN : X.N.Nodup) (hi : X.N[i]? = some n) (hln : X.env.kindOf n = some .local) (hj : X.N[j]? = some y) (hy : Loc X.env.scope y) (hyf : X.fn y = true ∨ X.env.scope.names.lookup y = some .local) (hnd : (n == ("__debug__" : Str)) = false) (hnc : (n == ("__classdict__" : Str)) = false) (hc : Names X x c) (tk : Takes X Wout)
    (hb : ∀ (W : WX) (pn : List (Addr × Obj)) (xe : Value → Shared → Prop), Takes (X.tr pn xe) W → PassesOwn (model X.prog X.w) X.A X.env xe → PSs (X.tr pn xe) body (tb W))
    (hsw : ∀ env, swapsWith (.Name n p2) (some (.Name y p1)) p3.line env = pure false) :
    PS X (.Try body [.ExceptHandler (some (.Name x np)) (some n) [.Assign [.Name y p1] (.Name n p2) p3] pos'] [] [] pos) (fun D σ H => tb (wK X.K c i j Wout D) D σ H) := by
  refine ⟨fun pins s σ H D I h => ?_⟩
  have ok := I.ok
  have hfr : X.A.frames = some (X.env :: X.outer) := by rw [ok.frames, hs]
  have hloc : Loc X.env.scope n := .inl hln
  refine wpAny_Try_except ?_
  refine wpAny_mono ((hb (wK X.K c i j Wout D) (X.pn ++ pins) (fun e s₁ => wpAny (model X.prog X.w) X.A (noteFrame e X.env) (fun _ s₂ => wpAny (model X.prog X.w) X.A (setFlight e none) (fun _ s₃ =>
    wpAny (model X.prog X.w) X.A (handleBy e X.env [.ExceptHandler (some (.Name x np)) (some n) [.Assign [.Name y p1] (.Name n p2) p3] pos']) (SP X pins D) X.xe s₃) X.xe s₂) X.xe s₁) (fun u s' xx => ?_) PassesOwn.looking).run [] s σ H D (I.toTry _) h) (fun f s1 hsp => ?_) (fun e s1 he => he)
  · -- the catch
    obtain ⟨a, B, sI, pins', σ', H', cls, d, rfl, J', nb, up, sky, na, os, ag, b, hb1, hyes, hno⟩ := xx
    have J : Inv X pins σ' H' sI := J'.ofTry ok
    have sky' : Sky B (X.env :: X.outer) a (Zc cls d) X.env.locals s'.heap := by rw [← hs]; exact sky
    show wpAny (model X.prog X.w) X.A (noteFrame (.ref a) X.env) _ _ _
    refine Sky.land Zc.steady hfr hf sky' fun h3 fl3 up3 => ?_
    have J3 : Inv X pins σ' H' { s' with heap := h3 } := J.landed nb fl3.1 (up.trans up3) os ag
    obtain ⟨oe3, vs3, he3, hz3, hd3⟩ := fl3.there
    have notFr : ∀ {h : Heap} {o : Obj} {vs : Array Value}, h.FunFrames B (X.env :: X.outer) → h.get? a = some o → o.data = .fields vs → a ∉ frs (X.env :: X.outer) := fun {h o vs} ff e dd hm => by
      obtain ⟨_, o', e', hnf⟩ := ff.mem hm
      rw [e] at e'; cases e'
      exact hnf _ dd
    have nfr := notFr fl3.2.2.1 he3 hd3
    have nL : a ≠ X.env.locals := fun z => nfr (List.mem_filterMap.mpr ⟨X.env, List.mem_cons_self, by rw [hf, z]⟩)
    have nF : a ∉ X.fs := fun hm => by
      obtain ⟨e, he, q⟩ := List.mem_filterMap.mp hm
      exact nfr (List.mem_filterMap.mpr ⟨e, List.mem_cons_of_mem _ he, q⟩)
    have S3 := J3.suite he3 hd3 na nL nF
    refine wpAny_handleBy_cons (codeAny_handlers_test ?_) (by intro q; cases q)
    have LT : PySem.W.Looks (model X.prog X.w) h3 (typeOf (.ref a)) cls := fun A Q E s k q => wpAny_typeOf_ref (k _ _ he3) (by rw [hz3.1]; exact q)
    have LM := PySem.W.exm_one (M := model X.prog X.w) (J3.kIn) LT hb1
    have test : ∀ {Q : Value → Shared → Prop} {E : Value → Shared → Prop}, Q c { s' with heap := h3 } → wpAny (model X.prog X.w) (X.A.mark (some (.ref a))) (eval (.Name x np) X.env) Q E { s' with heap := h3 } := fun {Q E} q => by
      obtain ⟨hg, hdbg, hm | ⟨hm, hv, hnn⟩⟩ := hc
      · exact ld_glob (X := X.suite a ((a, oe3) :: (X.pn ++ pins))) S3 hg hm q hdbg
      · exact ld_blt (X := X.suite a ((a, oe3) :: (X.pn ++ pins))) S3 hg hm hv q hnn hdbg
    refine test (LM.here ?_)
    cases b with
    | true =>
      refine codeAny_handlers_suite_as ?_
      refine HandSPX.lands_againZ fl3 fun h4 fl4 up4 => ?_
      have J4 : Inv X pins σ' H' { s' with heap := h4 } := J.landed nb fl4.1 ((up.trans up3).trans up4) os ag
      obtain ⟨oe4, vs4, he4, hz4, hd4⟩ := fl4.there
      have S4 := J4.suite he4 hd4 na nL nF
      refine store_ok (X := X.suite a ((a, oe4) :: (X.pn ++ pins))) (v := .ref a) S4 hN hi hloc rfl (fun s5 S5 => ?_) (.inr hln)
      have hlen : i < σ'.length := by rw [J.len]; exact (List.getElem?_eq_some_iff.mp hi).1
      have hsu : PSs (X.suite a ((a, oe4) :: (X.pn ++ pins))) [.Assign [.Name y p1] (.Name n p2) p3] (tAsg (tVar i) (gName j)) :=
        pss_one (ps_set (X := X.suite a ((a, oe4) :: (X.pn ++ pins))) hN hj hy (pe_var (X := X.suite a ((a, oe4) :: (X.pn ++ pins))) hi (.inl hln) hnd hnc) (hsw _) hyf)
      have nB : B.get? a = none := fl4.2.1
      have nS : ∀ {p : Addr} {o : Obj}, sI.heap.get? p = some o → p ∉ frs X.stack → p ≠ a := fun {p o} e hp z => by
        have := nb p o e hp
        rw [z, nB] at this; cases this
      have stkf : ∀ {p : Addr}, p ≠ X.env.locals → p ∉ X.fs → p ∉ frs X.stack := fun {p} h1 h2 hm => (List.mem_cons.mp (J.stkSub p hm)).elim h1 h2
      refine wpAny_mono (hsu.run [] s5 _ H' { nx := fun σ6 H6 => σ6 = (σ'.set i (some (.ref a))).set j (some (.ref a)) ∧ H6 = H', rt := fun _ _ => False, bk := fun _ _ => False, ct := fun _ _ => False } S5 ⟨.ref a, List.getElem?_set_self hlen, rfl, rfl⟩) (fun f s6 hsp => ?_) (fun _ _ z => False.elim z)
      cases f with
      | next =>
        obtain ⟨σ6, H6, S6, rfl, rfl⟩ := hsp
        have P6 : Inv X ((a, oe4) :: pins) _ H6 s6 := ⟨ok, S6.os, S6.bare, S6.base, S6.loc, S6.cell, S6.free, S6.freeC, fun p hp => S6.pin p (by
          rw [List.append_nil]
          rcases List.mem_append.mp hp with h | h
          · exact List.mem_cons_of_mem _ (List.mem_append_left _ h)
          · rcases List.mem_cons.mp h with h | h
            · rw [h]; exact List.mem_cons_self
            · exact List.mem_cons_of_mem _ (List.mem_append_right _ h)), S6.hok, S6.len⟩
        refine gone_ok P6 hN hi hln fun s7 J7 => ?_
        refine ⟨_, _, Inv.track J7 hd4 (fun p hp => ?_) (fun o e n hx => ?_), hyes rfl a oe4 na hz4 ⟨_, hd4⟩⟩
        · obtain ⟨e1, e2, e3, e4, _⟩ := J.pin p hp
          exact nS e1 (stkf e3 e4)
        · exact nS (J.base.keep a o e n nF hx) (stkf nL nF) rfl
      | brk =>
        obtain ⟨σ6, H6, S6, q6⟩ := hsp
        exact q6.elim
      | cont =>
        obtain ⟨σ6, H6, S6, q6⟩ := hsp
        exact q6.elim
      | ret u =>
        obtain ⟨v6, σ6, H6, S6, r6, q6⟩ := hsp
        exact q6.elim
    | false =>
      show wpAny _ X.A (handleBy (.ref a) X.env []) _ _ _
      refine wpAny_handleBy_nil ?_
      obtain ⟨k1, k2, k3, oe, vs, T, oT, ts', he, hz, hd, h1, hr⟩ := id fl3
      unfold PySem.passOn
      refine wpAny_bind (wpAny_field he hd h1 ?_)
      rw [if_neg (show ¬ ((Value.ref T == Value.none) = true) from by simp)]
      have fin : wpAny (model X.prog X.w) X.A (setFlight (.ref a) X.env.frame) (fun _ s4 => wpAny (model X.prog X.w) X.A (throw (.ref a) : Sem Flow) (SP X pins D) X.xe s4) X.xe { s' with heap := h3 } := by
        rw [hf]
        refine HandSPX.setFlight_upZ fl3 fun h4 hh4 up4 => wpAny_throw (tk _ _ ?_)
        exact ⟨a, B, sI, pins, σ', H', cls, d, rfl, J, nb, (up.trans up3).trans up4, .inr (.inr (by rw [hs]; exact hh4)), na, os, ag, hno rfl⟩
      first
        | exact wpAny_bind (wpAny_pure (wpAny_bind fin))
        | exact wpAny_bind fin
  · cases f with
    | next =>
      obtain ⟨σ', H', J', q⟩ := hsp
      exact wpAny_execs_nil ⟨σ', H', J'.ofTry ok, q⟩
    | brk =>
      obtain ⟨σ', H', J', q⟩ := hsp
      exact ⟨σ', H', J'.ofTry ok, q⟩
    | cont =>
      obtain ⟨σ', H', J', q⟩ := hsp
      exact ⟨σ', H', J'.ofTry ok, q⟩
    | ret u =>
      obtain ⟨v, σ', H', J', r, q⟩ := hsp
      exact ⟨v, σ', H', J'.ofTry ok, r, q⟩
end
end CB

namespace CB
open PySem L2 PySem.Spec PyProof.Rows
variable [CT]

/-! ### raise -/
abbrev VEs : List Value := [.type "ValueError", .type "Exception", .type "BaseException", .type "object"]
/-- an own class of errors, O: the class that is caught -/
structure OwnX (K : PySem.W.Frag) (mg : Str → Option Value) (c : Str) (C : Addr) : Prop where
  m : mg c = some (.ref C)
  x : PySem.W.excIn K C VEs "ValueError.__new__" = true
  k : PySem.W.keepIn K (.ref C) = true
  b : PySem.W.subIn K (.ref C) (.type "BaseException") = some true
  t : PySem.W.typeIn K (.ref C) = some (.type "type")
def raiseS (c : Str) : SM := fun env => .ex ⟨c, [], []⟩ env
section
variable {X : Cx} {E : XK}
theorem snds_raise {c m : Str} {k : Nat} {p p2 pos pos' : Pos} (O : ∃ C, OwnX X.K X.mg c C) (hc : X.calm = true) (tk : Takes X (fun cl d _ H => E cl d H)) (hg : Gl X c) (hdb : (c == ("__debug__" : Str)) = false := by decide) :
    SndS X E (.Raise (some (.Call (.Name c p) [.Constant (.str m) k p2] [] pos)) none pos') (raiseS c) := by
  obtain ⟨C, O⟩ := O
  refine ⟨_, ps_raise hc tk (pmk_own PySem.F.excBase_ValueError O.x O.m O.k (raises_own O.b O.t) hg hdb), fun M N fx pin φ H env σ ts K g w => ?_⟩
  exact w φ H σ (.ref C) none g ⟨C, O.m, rfl, .inl ⟨rfl, rfl⟩⟩
end

/-! ### the body of a try -/
section
variable (M N : Addr → Prop) (fx : Addr → HO → Prop) (pin : Nat → Option V) (mg : Str → Option Value) (σ : L2.St) (ts : List Tmp) (W : WX)
def SWantW (K : Ends) : SR → Prop
  | .nx env => ∀ φ H σ', Good M N fx pin φ H env σ' ts → K.nx σ' H
  | .rt o d env => False
  | .ex x env => ∀ φ H c dx, Good M N fx pin φ H env σ ts → XR mg x c dx H → W c dx σ H
  | .no => False
end
/-- a body of a try -/
def SndTB (X : Cx) (body : List Stmt) (m : SM) : Prop := ∃ tb : WX → TS, (∀ (W : WX) (pn : List (Addr × Obj)) (xe : Value → Shared → Prop), Takes (X.tr pn xe) W → PassesOwn (model X.prog X.w) X.A X.env xe → PSs (X.tr pn xe) body (tb W)) ∧
  ∀ W M N fx pin φ H env σ ts K, Good M N fx pin φ H env σ ts → SWantW M N fx pin X.mg σ ts W K (m env) → tb W K σ H
/-- a call in it -/
def SndX (X : Cx) (e : Expr) (p : P) : Prop := ∃ t : WX → TE, (∀ (W : WX) (pn : List (Addr × Obj)) (xe : Value → Shared → Prop), Takes (X.tr pn xe) W → PE (X.tr pn xe) e (t W)) ∧
  ∀ W (S : Addr → Prop) env σ H Q, ObsEnv S H env σ → PWant S X.mg H Q (WE W σ) (p env) → t W σ H Q
def cA (mg : Str → Option Value) (E : XK) (ps : List P) : TA := fun σ H Q => ∃ S env, ObsEnv S H env σ ∧ AWant S mg H Q E (args ps env)
theorem SndA.c {X : Cx} {E : XK} {es : List Expr} {ps : List P} (h : SndA X E es ps) : PA X es (cA X.mg E ps) := by
  obtain ⟨t, h1, h2⟩ := h
  exact ⟨fun pos pins s σ H Q I ⟨S, env, o, w⟩ => h1.run pos pins s σ H Q I (h2 S env σ H Q o w)⟩
/-- the arguments raise nothing -/
def callX (F : List D → PR) (ps : List P) : P := fun env => match args ps env with
  | .ok _ ds => F ds
  | _ => .no
section
variable {X : Cx} {E : XK} {k j n i : Nat} {pn : List Str} {x : Str} {p pos : Pos} {e : Expr} {es : List Expr} {ps : List P} {F : List D → PR}
theorem sndx_call (C : Cal X.prog X.w X.K X.mg X.base x k pn (spF n X.mg F)) (hr : RoomG j X.A) (hj : k ≤ j) (hg : Gl X x) (h : ∀ (pn : List (Addr × Obj)) (xe : Value → Shared → Prop), SndA (X.tr pn xe) E0 (e :: es) ps) (hn : ps.length = n := by rfl)
    (hdb : (x == ("__debug__" : Str)) = false := by decide) (he : starEach (e :: es) X.env = (false, eval e X.env) :: starEach es X.env := by rfl) (hpl : (backTo pos (starEach es X.env)).any (·.1) = false := by rfl) :
    SndX X (.Call (.Name x p) (e :: es) [] pos) (callX F ps) := by
  obtain ⟨f, fd, h1, h2, h3, h4⟩ := C
  refine ⟨fun W => tCallS (spF n X.mg F) (WE W) (cA X.mg E0 ps), fun W pn xe tk => pe_callSG (X := X.tr pn xe) h1 (hr.mono hj) hg h2 h3 h4 (fun σ => passAt tk σ) (h pn xe).c hdb he hpl, fun W S env σ H Q o w => ⟨S, env, o, ?_⟩⟩
  unfold callX at w
  cases hp : args ps env with
  | no => rw [hp] at w; exact w
  | ex x => rw [hp] at w; exact w.elim
  | ok g ds =>
    rw [hp] at w
    intro vs H1 as e1 r1 m1 _
    have := spF_of (X := X) (E := WE W σ) e1 r1 m1 (n := n) (by rw [args_len hp, hn]) w
    rw [List.append_nil] at this
    exact this
theorem readX {t : TE} {p : P} {E : XK} {mg : Str → Option Value} {σ : L2.St} {H : Hp} {Q : VK} (ks : List Nat) {M N : Addr → Prop} {fx : Addr → HO → Prop} {pin : Nat → Option V} {φ : Lab} {env : Env} {ts : List Tmp}
    (h : ∀ (S : Addr → Prop) env, ObsEnv S H env σ → PWant S mg H Q E (p env) → t σ H Q) (g : Good M N fx pin φ H env σ ts) (w : GWant M N fx pin mg σ ts E Q (lift ks p env)) : t σ H Q := by
  unfold lift at w
  cases hp : p env with
  | no => rw [hp] at w; exact w.elim
  | ex x =>
    refine h M env g.obs ?_
    rw [hp] at w ⊢; exact fun c dx H' e r => w φ H' c dx (g.ext e) r
  | ok f d =>
    rw [hp] at w
    simp only at w
    split at w
    · rename_i hg
      refine h M env g.obs ?_
      rw [hp]
      intro v H' as e r m n
      exact w _ H' v (g.push e r (gfl_new hg r n))
    · cases hp2 : p (hide ks 0 env) with
      | no => rw [hp2] at w; exact w.elim
      | ex x => rw [hp2] at w; exact w.elim
      | ok f2 d2 =>
        rw [hp2] at w
        simp only at w
        refine h _ _ (g.obsK ks) ?_
        rw [hp2]
        intro v H' as e r m n
        obtain ⟨φ', g', k1, k2⟩ := g.demK ks
        refine w φ' H' v (g'.pushS e r (fun a ha => (m a ha).imp (fun z => z.1) id) fun a ha => ?_)
        rcases m a ha with ⟨_, z | ⟨k, hk, z⟩⟩ | z
        · exact k1 a z
        · exact k2 k hk a z
        · exact k1 a (g.lab_none z)
theorem sndtb_set {i : Nat} {x : Str} {e : Expr} {p : P} {pos pos' : Pos} (ks : List Nat) (h : SndX X e p) (hN : X.N.Nodup) (hi : X.N[i]? = some x) (hx : Loc X.env.scope x) (hs : swapsWith e (some (.Name x pos')) pos.line X.env = pure false := by rfl) (hf : X.fn x = true ∨ X.env.scope.names.lookup x = some .local := by first | exact .inl rfl | exact .inr rfl | assumption) :
    SndTB X [.Assign [.Name x pos'] e pos] (asgS i (lift ks p)) := by
  obtain ⟨t, h1, h2⟩ := h
  refine ⟨fun W => tAsg (t W) (gName i), fun W pn xe tk _ => pss_one (ps_set (X := X.tr pn xe) hN hi hx (h1 W pn xe tk) hs hf), fun W M N fx pin φ H env σ ts K g w => ?_⟩
  refine readX (t := t W) (E := WE W σ) (mg := X.mg) ks (fun S env o w => h2 W S env σ H _ o w) g ?_
  unfold asgS at w
  cases hm : lift ks p env with
  | no => rw [hm] at w; exact w
  | ex x env' => rw [hm] at w; exact fun φ' H' c dx g' r => w φ' H' c dx g' r
  | ok o d env' =>
    rw [hm] at w
    intro φ' H' v g'
    exact w _ H' _ g'.store
theorem sndtb_expr {e : Expr} {p : P} {pos : Pos} (ks : List Nat) (h : SndX X e p) (hs : swapsWith e none pos.line X.env = pure false := by rfl) : SndTB X [.Expr e pos] (dropS (lift ks p)) := by
  obtain ⟨t, h1, h2⟩ := h
  refine ⟨_, fun W pn xe tk _ => pss_one (ps_expr (X := X.tr pn xe) (h1 W pn xe tk) hs), fun W M N fx pin φ H env σ ts K g w => ?_⟩
  refine readX (t := t W) (E := WE W σ) (mg := X.mg) ks (fun S env o w => h2 W S env σ H _ o w) g ?_
  unfold dropS at w
  cases hm : lift ks p env with
  | no => rw [hm] at w; exact w
  | ex x env' => rw [hm] at w; exact fun φ' H' c dx g' r => w φ' H' c dx g' r
  | ok o d env' => rw [hm] at w; exact fun φ' H' v g' => w φ' H' σ g'.drop1
/-- a test that raises nothing -/
def ifX (p : P) (m n : SM) : SM := fun env => match p env with
  | .ok _ (.bl true) => m env
  | .ok _ (.bl false) => n env
  | _ => .no
def cT (mg : Str → Option Value) (p : P) : TT := fun σ H Q => ∃ S env, ObsEnv S H env σ ∧ TWant mg H Q E0 (p env)
theorem SndT.c {e : Expr} {p : P} (h : SndT X E0 e p) : PT X e (cT X.mg p) := by
  obtain ⟨t, h1, h2⟩ := h
  exact ⟨fun pins s σ H Q I ⟨S, env, o, w⟩ => h1.run pins s σ H Q I (h2 S env σ H Q o w)⟩
theorem sndtb_if {c : Expr} {a b : List Stmt} {p : P} {m n : SM} {pos : Pos} (hc : ∀ (pn : List (Addr × Obj)) (xe : Value → Shared → Prop), SndT (X.tr pn xe) E0 c p) (ha : SndTB X a m) (hb : SndTB X b n) : SndTB X [.If c a b pos] (ifX p m n) := by
  obtain ⟨u, a1, a2⟩ := ha
  obtain ⟨z, b1, b2⟩ := hb
  refine ⟨fun W => tIfS (cT X.mg p) (u W) (z W), fun W pn xe tk po => pss_one (ps_if (X := X.tr pn xe) (hc pn xe).c (a1 W pn xe tk po) (b1 W pn xe tk po)), fun W M N fx pin φ H env σ ts K g w => ⟨M, env, g.obs, ?_⟩⟩
  unfold ifX at w
  cases hp : p env with
  | no => rw [hp] at w; exact w
  | ex x => rw [hp] at w; exact w.elim
  | ok f d =>
    rw [hp] at w
    cases d with
    | bl b =>
      intro H1 e
      cases b with
      | true => exact iteT (a2 W M N fx pin φ H1 env σ ts K (g.ext e) w)
      | false => exact iteF (b2 W M N fx pin φ H1 env σ ts K (g.ext e) w)
    | _ => exact (show False from w).elim

/-! ### try .. except O as n: y = n -/
def tryS (cs : List Str) (i j : Nat) (m : SM) : SM := fun env => match m env with
  | .nx env' => .nx env'
  | .ex x env' => if x.ns.isEmpty && x.vs.isEmpty && cs.contains x.c then .nx ((env'.set j (.val true (.exc x.c [] []))).set i .emp) else .no
  | _ => .no
theorem Good.emp {M N : Addr → Prop} {fx : Addr → HO → Prop} {pin : Nat → Option V} {φ : Lab} {H : Hp} {env : Env} {σ : L2.St} {ts : List Tmp} (g : Good M N fx pin φ H env σ ts) (i : Nat) (u : Option V) : Good M N fx pin (unl φ i) H (env.set i .emp) (σ.set i u) ts where
  len := by have := g.len; unfold Lens at *; rw [List.length_set, List.length_set]; exact this
  fix := fun a o h => ⟨(g.fix a o h).1, by unfold unl; rw [(g.fix a o h).2]; simp⟩
  own := fun a h => g.own a fun z => h (by unfold unl; rw [z]; simp)
  free := g.free
  slot := fun k s h => by
    by_cases hk : k = i
    · subst hk
      have hl : k < env.length := by
        have := (List.getElem?_eq_some_iff.mp h).1
        rwa [List.length_set] at this
      rw [List.getElem?_set_self hl] at h
      cases h
      trivial
    · rw [List.getElem?_set_ne (Ne.symm hk)] at h
      rw [List.getElem?_set_ne (Ne.symm hk)]
      exact (g.slot k s h).keep fun o d v q => q.unl fun z => hk (by cases z; rfl)
  tmp := fun j t h => (g.tmp j t h).unl fun z => nomatch z
/-- the classes that are caught -/
def Caught (K : PySem.W.Frag) (mg : Str → Option Value) (o : Str) (cs : List Str) : Prop := ∃ O, mg o = some (.ref O) ∧ ∀ c ∈ cs, ∃ C, mg c = some (.ref C) ∧ PySem.W.exmOne K (.ref C) (.ref O) = some true
theorem snds_try {o n y : Str} {i j : Nat} {cs : List Str} {body : List Stmt} {m : SM} {np p1 p2 p3 pos pos' : Pos} (hmg : CT.mg = X.mg) (hs : X.stack = X.env :: X.outer) (hf : X.env.frame = some X.env.locals) (hN : X.N.Nodup) (hi : X.N[i]? = some n) (hln : X.env.kindOf n = some .local) (hj : X.N[j]? = some y) (hy : Loc X.env.scope y) (hyf : X.fn y = true ∨ X.env.scope.names.lookup y = some .local)
    (hc : Caught X.K X.mg o cs) (hg : Gl X o) (tk : Takes X (fun cl d _ H => E cl d H)) (hb : SndTB X body m) (hij : (i == j) = false := by rfl) (hnd : (n == ("__debug__" : Str)) = false := by decide) (hnc : (n == ("__classdict__" : Str)) = false := by decide) (hod : (o == ("__debug__" : Str)) = false := by decide)
    (hsw : ∀ env, swapsWith (.Name n p2) (some (.Name y p1)) p3.line env = pure false := by intro _; rfl) :
    SndS X E (.Try body [.ExceptHandler (some (.Name o np)) (some n) [.Assign [.Name y p1] (.Name n p2) p3] pos'] [] [] pos) (tryS cs i j m) := by
  obtain ⟨tb, h1, h2⟩ := hb
  obtain ⟨O, hO, hC⟩ := hc
  refine ⟨_, ps_try_keep hs hf hN hi hln hj hy hyf hnd hnc ⟨hg, hod, .inl hO⟩ tk h1 hsw, fun M N fx pin φ H env σ ts K g w => h2 _ M N fx pin φ H env σ ts K g ?_⟩
  unfold tryS at w
  cases hm : m env with
  | no => rw [hm] at w; exact w
  | rt o d env' => rw [hm] at w; exact w
  | nx env' => rw [hm] at w; exact w
  | ex x env' =>
    rw [hm] at w
    simp only at w
    split at w
    · rename_i hx
      rw [Bool.and_eq_true, Bool.and_eq_true] at hx
      obtain ⟨⟨hx1, hx2⟩, hx3⟩ := hx
      intro φ' H' c dx g' r
      obtain ⟨C, r1, rfl, r2⟩ := r
      obtain ⟨C', q1, q2⟩ := hC x.c (by simpa using hx3)
      rw [r1] at q1
      cases q1
      refine ⟨true, q2, fun _ a oe na hz hd => ?_, fun z => nomatch z⟩
      have hns : x.ns = [] := by simpa using hx1
      have hdx : dx = none := by
        rcases r2 with z | z
        · exact z.2
        · exact absurd hns z.1
      subst hdx
      have ee : Ex H' (upd H' a (.frz oe (.own a))) := fun b u e => by
        have : b ≠ a := fun z => by rw [z, na] at e; cases e
        rw [upd_ne this]; exact e
      have rp : Rep (upd H' a (.frz oe (.own a))) (.exc x.c [] []) (.ref a) [] := .exc upd_same hz.1 hz.2 hd (by rw [hmg]; exact r1)
      have g2 := ((g'.push ee rp (.nil H')).store (i := j)).emp i none
      have hne : i ≠ j := by simpa using hij
      have es : ((σ.set i (some (.ref a))).set j (some (.ref a))).set i none = (σ.set j (some (V.ref a))).set i none := by
        rw [List.set_comm _ _ hne, List.set_set]
      rw [es]
      exact w _ _ _ g2
    · exact w.elim
end
end CB

namespace CB
open PySem L2 PySem.Spec PyProof.Rows
variable [CT]

/-! ### isinstance(x, C): x an error of an own class, or None -/
def rIsX (K : PySem.W.Frag) : List V → Hp → VK → Prop := fun xs H Q => ∃ (x c : V) (cv : Value) (b : Bool), xs = [x, c] ∧ ClsV c cv ∧
  ((∃ t, TyX K H x t ∧ PySem.W.kitOne K t cv = some b) ∨ (∃ a o D, x = .ref a ∧ H a = some (.frz o (.own a)) ∧ o.cls = .ref D ∧ o.dict = none ∧ (∃ vs, o.data = .fields vs) ∧ ExcC K D ∧ PySem.W.kitOne K (.ref D) cv = some b)) ∧ Q (.bl b) H
section
variable {X : Cx} {E : XK}
theorem call_isX : CallR X (.builtin "isinstance") (rIsX X.K) := by
  intro pins s σ H xs us Q I r h
  obtain ⟨x, c, cv, b, rfl, k, h, q⟩ := h
  rcases h with ⟨t, ty, e⟩ | ⟨a, o, D, rfl, ha, hc, hd, ⟨vs, hv⟩, C, e⟩
  · exact call_isi pins s σ H _ us Q I r ⟨x, c, t, cv, b, rfl, k, ty, e, q⟩
  · obtain ⟨u1, u2, rfl, r1, r2⟩ := vals2 r
    have e2 := k.eq r2
    subst e2
    cases (show u1 = Value.ref a from r1)
    obtain ⟨hget, _⟩ := (show ObjOk X.prog X.w H s.heap a (.frz o (.own a)) from I.hok a _ ha)
    have J : PySem.W.InstAt s.heap a o D none := by
      obtain ⟨oc, od, oda, osl⟩ := o
      dsimp only at hc hd hv
      subst hc hd hv
      exact ⟨hget, rfl, rfl, trivial⟩
    exact PySem.W.kia_one (PySem.W.handS_kitx_exc C.hg C.hk C.hs C.hd C.ha C.hn C.ht C.hm) I.kIn J e (fun z => nomatch z) fun tk => ⟨.bl b, H, I.tok tk, rfl, q⟩
/-- tab: for the classes that may be caught -/
def isC (tab : List (Str × Bool)) (d : D) : Option (Kd × D) := match d with
  | .non => some (.new, .bl false)
  | .exc c ns _ => if ns.isEmpty then (match tab.lookup c with
    | some b => some (.new, .bl b)
    | none => none) else none
  | _ => none
/-- what is known of the class that is asked for -/
def IsF (K : PySem.W.Frag) (mg : Str → Option Value) (cv : Value) (tab : List (Str × Bool)) : Prop := PySem.W.kitOne K (.type "NoneType") cv = some false ∧ ∀ c b, tab.lookup c = some b → ∃ C, mg c = some (.ref C) ∧ ExcC K C ∧ PySem.W.kitOne K (.ref C) cv = some b
theorem lookup_cons {A : Str → Bool → Prop} {c : Str} {b : Bool} {tab : List (Str × Bool)} (h : A c b) (t : ∀ c b, tab.lookup c = some b → A c b) : ∀ c' b', ((c, b) :: tab).lookup c' = some b' → A c' b' := fun c' b' e => by
  simp only [List.lookup] at e
  cases q : (c' == c) with
  | true => rw [q] at e; cases e; rw [show c' = c by simpa using q]; exact h
  | false => rw [q] at e; exact t c' b' e
theorem lookup_nil {A : Str → Bool → Prop} : ∀ c b, List.lookup c ([] : List (Str × Bool)) = some b → A c b := fun _ _ e => nomatch e
theorem isC_want {tab : List (Str × Bool)} {cv : Value} {c : V} {p : P} {S : Addr → Prop} {env : Env} {H : Hp} {Q : VK} {K : PySem.W.Frag} {mg : Str → Option Value} (hmg : CT.mg = mg) (F : IsF K mg cv tab) (k : ClsV c cv) (w : PWant S mg H Q E (op1 (isC tab) p env)) :
    PWant S mg H (fun v H1 => rIsX K [v, c] H1 Q) E (p env) := by
  unfold op1 at w
  cases hp : p env with
  | no => rw [hp] at w; exact w
  | ex x => rw [hp] at w; exact w
  | ok f d =>
    rw [hp] at w
    intro v H1 as e1 r1 _ _
    simp only [PR.bind] at w
    cases d with
    | non =>
      cases r1
      exact ⟨_, c, cv, false, rfl, k, .inl ⟨_, .base .non, F.1⟩, w _ H1 [] e1 (.bl false) noMem fun _ => .nil H⟩
    | exc x ns vs =>
      simp only [isC] at w
      split at w
      · rename_i k' d' hw
        split at hw
        · rename_i hns
          cases hl : tab.lookup x with
          | none => rw [hl] at hw; cases hw
          | some b =>
            rw [hl] at hw
            cases hw
            obtain ⟨C, c1, c2, c3⟩ := F.2 x b hl
            cases r1 with
            | exc h1 h2 h3 h4 h5 =>
              rw [hmg, c1] at h5
              cases h5
              exact ⟨_, c, cv, b, rfl, k, .inr ⟨_, _, C, rfl, h1, h2, h3, h4, c2, c3⟩, w _ H1 [] e1 (.bl b) noMem fun _ => .nil H⟩
            | excF _ _ _ _ _ h6 => exact absurd (by simpa using hns) h6
        · cases hw
      · exact w.elim
    | _ => exact (show False from w).elim
theorem snd_isO {e : Expr} {p : P} {x : Str} {C : Addr} {tab : List (Str × Bool)} {p1 p2 pos : Pos} (hmg : CT.mg = X.mg) (h : SndP X E e p) (hg : Gl X "isinstance") (hm : X.mg "isinstance" = none) (hg2 : Gl X x) (hm2 : X.mg x = some (.ref C)) (F : IsF X.K X.mg (.ref C) tab)
    (hdb : (x == ("__debug__" : Str)) = false := by decide) (he : starEach [e, .Name x p2] X.env = (false, eval e X.env) :: starEach [.Name x p2] X.env := by rfl) (he2 : starEach [.Name x p2] X.env = (false, eval (.Name x p2) X.env) :: starEach [] X.env := by rfl)
    (hpl : (backTo pos (starEach [.Name x p2] X.env)).any (·.1) = false := by rfl) :
    SndP X E (.Call (.Name "isinstance" p1) [e, .Name x p2] [] pos) (op1 (isC tab) p) := by
  obtain ⟨t, h1, h2⟩ := h
  exact ⟨_, pe_callB call_isX hg hm (by decide +kernel) (pa_cons h1 (pa_cons (pe_glob (v := .ref C) hg2 hm2 rfl hdb) pa_nil he2) he) (by decide) (by decide) he hpl, fun S env σ H Q o w => h2 S env σ H _ o (isC_want hmg F (.own C) w)⟩
theorem snd_isE {e : Expr} {p : P} {x : Str} {tab : List (Str × Bool)} {p1 p2 pos : Pos} (hmg : CT.mg = X.mg) (h : SndP X E e p) (hg : Gl X "isinstance") (hm : X.mg "isinstance" = none) (hg2 : Gl X x) (F : ∃ C, X.mg x = some (.ref C) ∧ IsF X.K X.mg (.ref C) tab)
    (hdb : (x == ("__debug__" : Str)) = false := by decide) (he : starEach [e, .Name x p2] X.env = (false, eval e X.env) :: starEach [.Name x p2] X.env := by rfl) (he2 : starEach [.Name x p2] X.env = (false, eval (.Name x p2) X.env) :: starEach [] X.env := by rfl)
    (hpl : (backTo pos (starEach [.Name x p2] X.env)).any (·.1) = false := by rfl) :
    SndP X E (.Call (.Name "isinstance" p1) [e, .Name x p2] [] pos) (op1 (isC tab) p) := by
  obtain ⟨C, h1, h2⟩ := F
  exact snd_isO hmg h hg hm hg2 h1 h2 hdb he he2 hpl
theorem snd_isB {e : Expr} {p : P} {T : String} {x : Str} {tab : List (Str × Bool)} {p1 p2 pos : Pos} (hmg : CT.mg = X.mg) (h : SndP X E e p) (hg : Gl X "isinstance") (hm : X.mg "isinstance" = none) (hg2 : Gl X x) (hm2 : X.mg x = none) (hb : bootBuiltins x = some (.type T)) (F : IsF X.K X.mg (.type T) tab)
    (hn : x ≠ "__name__" := by decide) (hdb : (x == ("__debug__" : Str)) = false := by decide) (he : starEach [e, .Name x p2] X.env = (false, eval e X.env) :: starEach [.Name x p2] X.env := by rfl) (he2 : starEach [.Name x p2] X.env = (false, eval (.Name x p2) X.env) :: starEach [] X.env := by rfl)
    (hpl : (backTo pos (starEach [.Name x p2] X.env)).any (·.1) = false := by rfl) :
    SndP X E (.Call (.Name "isinstance" p1) [e, .Name x p2] [] pos) (op1 (isC tab) p) := by
  obtain ⟨t, h1, h2⟩ := h
  exact ⟨_, pe_callB call_isX hg hm (by decide +kernel) (pa_cons h1 (pa_cons (pe_bltn (v := .ty T) hg2 hm2 hb rfl hn hdb) pa_nil he2) he) (by decide) (by decide) he hpl, fun S env σ H Q o w => h2 S env σ H _ o (isC_want hmg F (.ty T) w)⟩
end
theorem bt_ValueError : bootBuiltins "ValueError" = some (.type "ValueError") := by decide +kernel
end CB

namespace CB
open PySem L2 PySem.Spec PyProof.Rows
variable [CT]

/-! ### dicts whose keys are tuples of ints: the machine -/
theorem items_int {P : Program} {w : World} : ∀ {ks : List Int} {us : List Value}, Vals (ks.map V.int) us → ItemsAre (intKind P w) ks us
  | [], _, r => by rw [List.map_nil] at r; cases r; exact .nil
  | k :: ks, _, r => by
    rw [List.map_cons] at r
    cases r with
    | cons h t => obtain ⟨tk, e⟩ := h; subst e; exact .cons (by simp [PySem.intKind, Value.isInt]) (items_int t)
theorem key_int {P : Program} {w : World} {H : Hp} {h : Heap} {a : Addr} {q : Obj} {ks : List Int} (ok : HOk P w H h) (e : H a = some (.frz q (.tup (ks.map V.int)))) : (tupleKind (intKind P w)).is h ks a := by
  obtain ⟨_, _, its, r, o, h1, h2, n, h3⟩ := (show ObjOk P w H h a (.frz q (.tup (ks.map V.int))) from ok a _ e)
  exact ⟨o, its.toArray, n, h1, h2, h3, by simpa using items_int r⟩
theorem dO_get {P : Program} {w : World} {H : Hp} {h : Heap} {a : Addr} {o : Obj} (ok : HOk P w H h) (e : H a = some (dO a o)) : h.get? a = some o :=
  (show ObjOk P w H h a (dO a o) from ok a _ e).1
theorem dO_ok {P : Program} {w : World} {H : Hp} {h : Heap} {a : Addr} {o : Obj} (e : h.get? a = some o) : ObjOk P w H h a (dO a o) :=
  ⟨e, ⟨o, e⟩, fun _ _ p k => k o p⟩
theorem dic_of {P : Program} {w : World} {H : Hp} {h : Heap} {a : Addr} {o : Obj} {es : Array DictEntry} {ep : Nat} {xs : Ents} (ok : HOk P w H h) (e : H a = some (dO a o)) (i : IsDic H a o es ep xs) : h.DictOfH (tupleKind (intKind P w)) a xs :=
  ⟨o, es, ep, dO_get ok e, i.ex, i.dat, i.ents, fun x hx => let ⟨_, h1, _⟩ := i.key x hx; key_int ok h1, i.nd⟩
theorem dic_raw {P : Program} {w : World} {H : Hp} {h : Heap} {a : Addr} {o : Obj} {es : Array DictEntry} {ep : Nat} (ok : HOk P w H h) (e : H a = some (dO a o)) (hx : o.ExactDict) (hd : o.data = .dict es ep) : h.DictRaw a es ep :=
  ⟨o, dO_get ok e, hx, hd⟩
/-- the key at b is k, the dict at a holds p there -/
structure DKey (H : Hp) (a b : Addr) (xs : Ents) (k : List Int) : Prop where
  dic : ∃ o es ep, H a = some (dO a o) ∧ IsDic H a o es ep xs
  key : ∃ q, H b = some (.frz q (.tup (k.map V.int)))
section
variable {X : Cx}
def rDIx : R2 := fun x y H Q => ∃ a b xs k p v, x = .ref a ∧ y = .ref b ∧ DKey H a b xs k ∧ atKey xs k = some p ∧ RelV v p.2 ∧ Q v H
theorem ix_dic (hu : X.A.units + 1 < cLine) : IxR X rDIx := by
  intro value slice pins s σ H x y v u Q I rx ry h hs
  obtain ⟨a, b, xs, k, p, z, rfl, rfl, ⟨⟨o, es, ep, ha, hi⟩, q, hb⟩, hp, rz, hq⟩ := h
  cases rx
  cases ry
  have dd := dic_of I.hok ha hi
  exact tail_any dd.typeIs PySem.F.slot_dict_getitem.lookup (wpAny_getItem_heap (tupleKind_room_in1 hu) (key_int I.hok hb) dd hp ⟨z, H, I.tok _, rz, hq⟩) hs
def rDIn : R2 := fun y x H Q => ∃ a b xs k, x = .ref a ∧ y = .ref b ∧ DKey H a b xs k ∧ Q (.bl (atKey xs k).isSome) H
theorem op_inD (hu : X.A.units + 1 < cLine) : OpR X (compareOp .In) rDIn := by
  intro pins s σ H y x u v Q I ry rx h
  obtain ⟨a, b, xs, k, rfl, rfl, ⟨⟨o, es, ep, ha, hi⟩, q, hb⟩, hq⟩ := h
  cases rx
  cases ry
  exact wpAny_in_heap (tupleKind_room_in1 hu) (key_int I.hok hb) hi.nsm (dic_of I.hok ha hi) ⟨.bl _, H, I.tok _, rfl, hq⟩
def rDNotIn : R2 := fun y x H Q => ∃ a b xs k, x = .ref a ∧ y = .ref b ∧ DKey H a b xs k ∧ Q (.bl (!(atKey xs k).isSome)) H
theorem op_notInD (hu : X.A.units + 1 < cLine) : OpR X (compareOp .NotIn) rDNotIn := by
  intro pins s σ H y x u v Q I ry rx h
  obtain ⟨a, b, xs, k, rfl, rfl, ⟨⟨o, es, ep, ha, hi⟩, q, hb⟩, hq⟩ := h
  cases rx
  cases ry
  exact wpAny_notIn_heap (tupleKind_room_in1 hu) (key_int I.hok hb) hi.nsm (dic_of I.hok ha hi) ⟨.bl _, H, I.tok _, rfl, hq⟩
/-- d.get(k, x) -/
def tDGetI (td ty tx : TE) : TE := fun σ H Q => td σ H fun x H1 => ∃ a o, x = .ref a ∧ H1 a = some (dO a o) ∧ o.ExactDict ∧ ty σ H1 fun y H2 => tx σ H2 fun z H3 => ∃ b xs k, y = .ref b ∧ DKey H3 a b xs k ∧
  ((atKey xs k = none ∧ Q z H3) ∨ ∃ p v, atKey xs k = some p ∧ RelV v p.2 ∧ Q v H3)
theorem pe_dgetI {o e f : Expr} {apos cpos : Pos} {td ty tx : TE} (hu : X.A.units + 1 < cLine) (ho : PE X o td) (he : PE X e ty) (hf : PE X f tx) (m : M2 X o "get" apos e f cpos) : PE X (.Call (.Attribute o "get" apos) [e, f] [] cpos) (tDGetI td ty tx) := by
  refine ⟨fun pins s σ H Q I h => ?_⟩
  refine wpAny_Call_method m.base m.few m.line PySem.F.plainAttrs_dict PySem.F.slot_dict_get PySem.F.type_dict_get (thn (ho.run pins s σ H _ I h) fun u s1 ⟨x, H1, I1, rx, a, oa, ex, d1, d2, q1⟩ => ?_)
  subst ex
  obtain rfl : u = Value.ref a := rx
  have ga := dO_get I1.hok d1
  refine ⟨⟨oa, ga, d2.1⟩, fun b e => by cases e; exact ⟨oa, ga, d2.2.1⟩, ?_⟩
  rw [m.trees]
  refine Calls.callWith_builtin rfl (Calls.evalArgs_plain (Calls.spliced_cons (thn (he.run pins s1 σ H1 _ I1 q1) fun iv s2 ⟨y, H2, I2, ry, q2⟩ =>
    Calls.spliced_cons (thn (hf.run pins s2 σ H2 _ I2 q2) fun fv s3 ⟨z, H3, I3, rz, b, xs, k, ey, dk, q3⟩ => Calls.spliced_nil ?_))))
  subst ey
  obtain rfl : iv = Value.ref b := ry
  obtain ⟨⟨o3, es, ep, ha, hi⟩, q, hb⟩ := dk
  have dd := dic_of I3.hok ha hi
  refine call_meetsIn PySem.F.slot_dict_get dd.typeIs PySem.F.entry_dict_get (PySem.F.args_dict_get_3 _ _ _) (meetsH_dict_get_default (tupleKind (intKind X.prog X.w)) a b hi.nsm fv) ⟨tupleKind_room_in1 hu, k, xs, key_int I3.hok hb, dd, ?_⟩
  rcases q3 with ⟨h1, h2⟩ | ⟨p, v, h1, h2, h3⟩
  · rw [h1]; exact ⟨z, H3, I3.tok _, rz, h2⟩
  · rw [h1]; exact ⟨v, H3, I3.tok _, h2, h3⟩
/-- d[k] = v -/
def rSetD : V → V → V → Hp → (Hp → Prop) → Prop := fun o i v H Q => ∃ a b xs k, o = .ref a ∧ i = .ref b ∧ DKey H a b xs k ∧ (∃ q, H b = some (.frz q (.tup (k.map V.int))) ∧ q.dict = none) ∧ xs.length < sizeLine ∧
  ∀ o' es' ep' u, RelV v u → IsDic (upd H a (dO a o')) a o' es' ep' (storedH xs k b u) → Q (upd H a (dO a o'))
theorem storedH_len (xs : Ents) (k : List Int) (b : Addr) (u : Value) : (storedH xs k b u).length ≤ xs.length + 1 := by
  unfold storedH; split <;> simp
theorem storedH_mem {xs : Ents} {k : List Int} {b : Addr} {u : Value} {x : List Int × Addr × Value} (h : x ∈ storedH xs k b u) : (∃ y ∈ xs, y.1 = x.1 ∧ y.2.1 = x.2.1) ∨ (x.1 = k ∧ x.2.1 = b) := by
  unfold storedH at h
  split at h
  · obtain ⟨y, hy, e⟩ := List.mem_map.mp h
    refine .inl ⟨y, hy, ?_⟩
    subst e
    unfold putAt
    split <;> exact ⟨rfl, rfl⟩
  · rcases List.mem_append.mp h with h | h
    · exact .inl ⟨x, h, rfl, rfl⟩
    · simp at h; subst h; exact .inr ⟨rfl, rfl⟩
theorem set_dic (hu : X.A.units + 1 < cLine) : PSet X rSetD := by
  intro pins s σ H o i v ov iv u Q I ro ri rv h
  obtain ⟨a, b, xs, k, rfl, rfl, ⟨⟨ob, es, ep, ha, hi⟩, q, hb⟩, ⟨q', hb', hq'⟩, hz, hQ⟩ := h
  cases ro
  cases ri
  refine wpAny_setItem_heap (hsz := Nat.le_of_lt hz) (tupleKind_room_in1 hu) (key_int I.hok hb) (dic_of I.hok ha hi) fun h' dd' hs => ?_
  obtain ⟨o', es', ep', hq, h2, h3, h4, _, h5⟩ := dd'
  have ne : ∀ c q u, H c = some (.frz q u) → c ≠ a := fun c q u e => ne_of e ha (fun z => nomatch z)
  refine ⟨_, d_write I (by rw [ha]; exact True.intro) hs ⟨o', hq⟩ (dO_ok hq), hQ o' es' ep' u rv ⟨hi.nsm, h2, h3, h4, h5, by have := storedH_len xs k b u; omega, fun x hx => ?_⟩⟩
  rcases storedH_mem hx with ⟨y, hy, e1, e2⟩ | ⟨e1, e2⟩
  · obtain ⟨q, h6, h7⟩ := hi.key y hy
    rw [← e1, ← e2]
    exact ⟨q, by rw [upd_ne (ne _ _ _ h6)]; exact h6, h7⟩
  · rw [e1, e2]
    exact ⟨q', by rw [upd_ne (ne _ _ _ hb')]; exact hb', hq'⟩
/-- {} -/
def tDNewI : TE := fun _ H Q => ∀ p o, H p = none → IsDic (upd H p (dO p o)) p o #[] 0 [] → Q (.ref p) (upd H p (dO p o))
theorem pe_dnewI {pos : Pos} : PE X (.Dict [] [] pos) tDNewI := ⟨fun pins s σ H Q I h => by
  have hb := I.big
  exact wpAny_Dict_empty ⟨.ref s.heap.objs.size, _, I.laid (a := s.heap.objs.size) (o := dO s.heap.objs.size { cls := .type "dict", data := .dict #[] }) (t' := s.toks) (fun _ _ q => Heap.get?_push_of_some _ q) (Nat.le_refl _) (dO_ok (Heap.get?_push_size _ rfl)), rfl,
    h _ _ (I.hok.fresh (Nat.le_refl _)) ⟨beq_eq_false_iff_ne.mpr (Nat.ne_of_gt hb), ⟨rfl, rfl, rfl⟩, rfl, rfl, List.nodup_nil, Nat.zero_le _, fun x hx => nomatch hx⟩⟩⟩
/-- its keys, walked -/
def Itkd (d : Addr) (o : Obj) (xs : Ents) : It :=
  ⟨fun i H => H d = some (dO d o) ∧ i < xs.length, fun i H x H' => H' = H ∧ ∃ e, xs[i]? = some e ∧ x = .ref e.2.1, fun i H => H d = some (dO d o) ∧ xs.length ≤ i⟩
theorem ents_at {es : Array DictEntry} {xs : Ents} (he : es.toList = xs.map entI) (i : Nat) : es[i]? = (xs[i]?).map entI := by
  rw [← Array.getElem?_toList, he, List.getElem?_map]
theorem ents_size {es : Array DictEntry} {xs : Ents} (he : es.toList = xs.map entI) : es.size = xs.length := by
  rw [← Array.length_toList, he, List.length_map]
theorem ents_get {es : Array DictEntry} {xs : Ents} (he : es.toList = xs.map entI) {i : Nat} (hi : i < es.size) {e : List Int × Addr × Value} (h : xs[i]? = some e) : es[i].key = .ref e.2.1 ∧ es[i].val = e.2.2 := by
  have q := ents_at he i
  rw [h, Array.getElem?_eq_getElem hi] at q
  have q := Option.some.inj q
  rw [q]
  exact ⟨rfl, rfl⟩
theorem turn_keysD {P : Program} {w : World} {K : PySem.W.Frag} {tg : Expr} {d : Addr} {o : Obj} {es : Array DictEntry} {ep : Nat} {xs : Ents} (it : Addr) (hx : o.ExactDict) (hod : o.data = .dict es ep) (he : es.toList = xs.map entI) : Turn P w K tg (Itkd d o xs) [it] it (fun i h => h.IsKeyIter it d i es.size ep) where
  mem := by simp
  obj := fun i h st b hb => by
    have e : b = it := by simpa using hb
    subst e
    obtain ⟨oi, e, c, dd⟩ := st
    exact ⟨oi, e, fun v z => by rw [dd] at z; cases z⟩
  keep := fun i h h' st k => st.at fun oi e => k it (by simp) oi e
  item := by
    intro X hP hw hK hc i pins s σ H E I hf st hg
    subst hP hw hK
    obtain ⟨hd, hi⟩ := hg
    obtain ⟨f0, f1, f2, f3, f4, f5⟩ := hf it (by simp)
    have hi' : i < es.size := by rw [ents_size he]; exact hi
    have hxe : xs[i]? = some xs[i] := List.getElem?_eq_getElem hi
    refine wpAny_pyNext_keys_item_raw st (dic_raw I.hok hd hx hod) hi' fun h' st' sb => ?_
    have I1 : L2.Inv X pins σ H { s with heap := h' } := I.turned (t' := s.toks) (fun b ob hb e => (sb.2 b hb).trans e) f0 f1 f3 f4 f5
    obtain ⟨oi, e, c, dd⟩ := id st'
    exact ⟨es[i].key, rfl, go_of (s := { s with heap := h' }) e c dd (by decide) ⟨.ref (xs[i]).2.1, H, I1, (ents_get he hi' hxe).1, ⟨rfl, xs[i], hxe, rfl⟩, st', fun b hb => (hf b hb).1⟩⟩
  done := by
    intro X hP hw hK hc i pins s σ H E I hf st hg
    subst hP hw hK
    obtain ⟨hd, hi⟩ := hg
    obtain ⟨f0, f1, f2, f3, f4, f5⟩ := hf it (by simp)
    exact wpAny_pyNext_keys_end_raw (I.ok.hd hc) st (dic_raw I.hok hd hx hod) (by rw [ents_size he]; exact hi) fun h' eb => ⟨rfl, I.turned (t' := s.toks) (fun b ob hb e => eb b ob hb e) f0 f1 f3 f4 f5⟩
  self := fun A i s Q E st h => by
    refine wpAny_pyIter_slot st.typeIs F.slot_dict_keyiterator_iter (wpAny_call_entry F.slot_dict_keyiterator_iter st.typeIs F.entry_dict_keyiterator_iter ?_ (F.args_dict_keyiterator_iter_1 _))
    show wpAny _ _ (ret (.ref it)) _ _ s
    exact wpAny_pure ⟨_, rfl, "dict_keyiterator", _, st.typeIs, F.slot_dict_keyiterator_next.lookup, h⟩
/-- the pairs, each a new tuple -/
def Itid (d : Addr) (o : Obj) (xs : Ents) (vs : List V) : It :=
  ⟨fun i H => H d = some (dO d o) ∧ i < xs.length, fun i H x H' => ∃ T e v, xs[i]? = some e ∧ vs[i]? = some v ∧ x = .ref T ∧ H T = none ∧ H' = upd H T (.tup [.ref e.2.1, v]), fun i H => H d = some (dO d o) ∧ xs.length ≤ i⟩
theorem turn_itemsD {P : Program} {w : World} {K : PySem.W.Frag} {d : Addr} {o : Obj} {es : Array DictEntry} {ep : Nat} {xs : Ents} {vs : List V} {elts : List Expr} {kk : Nat} {tpos : Pos} (it : Addr) (hx : o.ExactDict) (hod : o.data = .dict es ep) (he : es.toList = xs.map entI) (hv : Vals vs (xs.map (·.2.2))) :
    Turn P w K (.Tuple elts kk tpos) (Itid d o xs vs) [it] it (fun i h => ∃ ok ov, IsItemIter h it d i es.size ep ok ov) where
  mem := by simp
  obj := fun i h st b hb => by
    have e : b = it := by simpa using hb
    subst e
    obtain ⟨ok, ov, e⟩ := st
    exact ⟨_, e, fun v z => nomatch z⟩
  keep := fun i h h' st k => let ⟨ok, ov, e⟩ := st; ⟨ok, ov, k it (by simp) _ e⟩
  item := by
    intro X hP hw hK hc i pins s σ H E I hf st hg
    subst hP hw hK
    obtain ⟨hd, hi⟩ := hg
    have hi' : i < es.size := by rw [ents_size he]; exact hi
    have hxe : xs[i]? = some xs[i] := List.getElem?_eq_getElem hi
    have hl : vs.length = xs.length := by have := hv.length; simpa using this
    have hve : vs[i]? = some (vs[i]'(by omega)) := List.getElem?_eq_getElem (by omega)
    obtain ⟨u, hu, ru⟩ := hv.get hve
    rw [List.getElem?_map, hxe] at hu
    cases hu
    obtain ⟨ek, ev⟩ := ents_get he hi' hxe
    obtain ⟨ok, ov, st⟩ := st
    have hlt : it < s.heap.objs.size := Heap.lt_size st
    refine wpAny_pyNext_items_item_raw st (dic_raw I.hok hd hx hod) hi' fun h' ho hT hz hk => ?_
    refine ⟨_, rfl, wpAny_letOwnedTupleGo_items (s := { s with heap := h' }) ho fun h'' he' sb => ?_⟩
    rw [ek, ev] at hT
    have hT2 : h''.get? s.heap.objs.size = some { cls := .type "tuple", data := .seq #[.ref (xs[i]).2.1, (xs[i]).2.2] } := (sb.2 _ (Nat.ne_of_gt hlt)).trans hT
    have new : ObjOk X.prog X.w (upd H s.heap.objs.size (.tup [.ref (xs[i]).2.1, vs[i]'(by omega)])) h'' s.heap.objs.size (.tup [.ref (xs[i]).2.1, vs[i]'(by omega)]) :=
      ⟨by show 2 ≤ sizeLine; decide, [.ref (xs[i]).2.1, (xs[i]).2.2], .cons rfl (.cons ru .nil), ⟨_, hT2, rfl, _, rfl⟩⟩
    have I1 : L2.Inv X pins σ (upd H s.heap.objs.size (.tup [.ref (xs[i]).2.1, vs[i]'(by omega)])) { s with heap := h'' } :=
      I.turnedNew (t' := s.toks) (ch := [it]) (fun b ob hb e => (sb.2 b (by simpa using hb)).trans (hk b ob (by simpa using hb) e)) hf (Nat.le_refl _) new
    refine ⟨.ref s.heap.objs.size, _, I1, rfl, ⟨_, _, _, hxe, hve, rfl, I.hok.fresh (Nat.le_refl _), rfl⟩, ⟨_, _, he'⟩, fun b hb => ?_⟩
    have e : b = it := by simpa using hb
    rw [e, upd_ne (Nat.ne_of_lt hlt)]
    exact (hf it (by simp)).1
  done := by
    intro X hP hw hK hc i pins s σ H E I hf st hg
    subst hP hw hK
    obtain ⟨hd, hi⟩ := hg
    obtain ⟨f0, f1, f2, f3, f4, f5⟩ := hf it (by simp)
    obtain ⟨ok, ov, st⟩ := st
    exact wpAny_pyNext_items_end_raw (I.ok.hd hc) st (dic_raw I.hok hd hx hod) (by rw [ents_size he]; exact hi) fun h' eb => ⟨rfl, I.turned (t' := s.toks) (fun b ob hb e => eb b ob hb e) f0 f1 f3 f4 f5⟩
  self := fun A i s Q E st h => let ⟨_, _, e⟩ := st; PySem.W.kcp_self e h
def iKeysD (td : TE) : TI := fun σ H R => td σ H fun x H1 => ∃ d o es ep xs, x = .ref d ∧ H1 d = some (dO d o) ∧ (d == sysModules) = false ∧ o.ExactDict ∧ o.data = .dict es ep ∧ es.toList = xs.map entI ∧ R (Itkd d o xs) H1
theorem pi_keysD {tg e : Expr} {td : TE} (he : PE X e td) : PI X tg e (iKeysD td) := by
  refine ⟨fun pins s σ H R I h => ?_⟩
  refine thn (he.run pins s σ H _ I h) fun u s1 ⟨x, H1, I1, rx, d, o, es, ep, xs, ex, hd, hn, hx, hod, hes, q⟩ => ?_
  subst ex
  obtain rfl : u = Value.ref d := rx
  refine wpAny_pyIter_dict_raw hn (dic_raw I1.hok hd hx hod) (pi_one (tk := s1.toks) I1 _ (turn_keysD _ hx hod hes) ⟨_, Heap.get?_push_size _ rfl, rfl, rfl⟩ q)
def iItemsD (td : TE) : TI := fun σ H R => td σ H fun x H1 => ∃ d o es ep xs vs, x = .ref d ∧ H1 d = some (dO d o) ∧ (d == sysModules) = false ∧ o.ExactDict ∧ o.data = .dict es ep ∧ es.toList = xs.map entI ∧ Vals vs (xs.map (·.2.2)) ∧ R (Itid d o xs vs) H1
theorem pi_itemsD {elts : List Expr} {kk : Nat} {tpos apos cpos : Pos} {e : Expr} {td : TE} (he : PE X e td) (hbase : attributeBase e "items" X.env (eval e X.env) = eval e X.env := by rfl) (hline : (apos.endLine == cpos.line) = true := by rfl) :
    PI X (.Tuple elts kk tpos) (.Call (.Attribute e "items" apos) [] [] cpos) (iItemsD td) := by
  refine ⟨fun pins s σ H R I h => ?_⟩
  refine wpAny_Call_method (T := "dict") (id := "dict.items") hbase rfl hline F.plainAttrs_dict F.slot_dict_items F.type_dict_items (thn (he.run pins s σ H _ I h) fun u s1 ⟨x, H1, I1, rx, d, o, es, ep, xs, vs, ex, hd, hn, hx, hod, hes, hv, q⟩ => ?_)
  subst ex
  obtain rfl : u = Value.ref d := rx
  have ga := dO_get I1.hok hd
  have raw := dic_raw I1.hok hd hx hod
  refine ⟨raw.typeIs, fun b e => by cases e; exact ⟨o, ga, hx.2.1⟩, ?_⟩
  have I2 : L2.Inv X pins σ H1 { s1 with heap := s1.heap.push { cls := .type "dict_items", data := .fields #[.ref d] } } := I1.kept (t' := s1.toks) fun b ob q => Heap.get?_push_of_some _ q
  have fin : wpAny (model X.prog X.w) X.A (pyIter (.ref s1.heap.objs.size)) (PIE X pins σ (.Tuple elts kk tpos) R) X.xe { s1 with heap := s1.heap.push { cls := .type "dict_items", data := .fields #[.ref d] } } := by
    refine wpAny_pyIter_items_raw (d := d) ⟨_, Heap.get?_push_size _ rfl, rfl, rfl⟩ (dic_raw I2.hok hd hx hod) (pi_one (tk := s1.toks) I2 _ (turn_itemsD _ hx hod hes hv) ⟨.none, .none, ?_⟩ q)
    exact Heap.get?_push_size _ rfl
  show wpAny _ _ (callWith cpos (.builtin "dict.items") [.ref d] [] []) _ X.xe s1
  exact method_meetsIn F.slot_dict_items F.entry_dict_items rfl (PySem.evalArgs_none ⟨rfl, raw.typeIs, F.args_dict_items_1 _, _, meets_dict_items_raw d hn, ⟨es, ep, raw⟩, fin⟩)
end
end CB

namespace CB
open PySem L2 PySem.Spec PyProof.Rows
variable [CT]

/-! ### dicts as trees -/
def keyI : List D → Option (List Int)
  | [] => some []
  | .int i :: ds => (keyI ds).map (i :: ·)
  | _ :: _ => none
def keyOf : D → Option (List Int)
  | .tup xs => keyI xs
  | _ => none
def dval {α : Type} : List (List Int) → List α → List Int → Option α
  | k' :: ks, v :: vs, k => if k' = k then some v else dval ks vs k
  | _, _, _ => none
def kput : List (List Int) → List Int → List (List Int)
  | [], k => [k]
  | k' :: ks, k => if k' = k then k' :: ks else k' :: kput ks k
def vput {α : Type} : List (List Int) → List α → List Int → α → List α
  | k' :: ks, v :: vs, k, d => if k' = k then d :: vs else v :: vput ks vs k d
  | _, _, _, d => [d]
theorem keyI_eq : ∀ {xs : List D} {k : List Int}, keyI xs = some k → xs = k.map D.int
  | [], _, h => by cases h; rfl
  | x :: xs, k, h => by
    cases x <;> simp only [keyI] at h <;> try cases h
    rename_i i
    cases e : keyI xs with
    | none => rw [e] at h; cases h
    | some k' => rw [e] at h; cases h; rw [List.map_cons, keyI_eq e]
theorem keyI_map : ∀ k : List Int, keyI (k.map D.int) = some k
  | [] => rfl
  | i :: k => by rw [List.map_cons, keyI, keyI_map k]; rfl
theorem reps_intsD {H : Hp} : ∀ {k : List Int} {vs : List V} {as : List Addr}, Reps H (k.map D.int) vs as → vs = k.map V.int ∧ as = []
  | [], _, _, .nil => ⟨rfl, rfl⟩
  | i :: k, _, _, .cons r rs => by
    cases r
    obtain ⟨h1, h2⟩ := reps_intsD rs
    subst h1 h2
    exact ⟨rfl, rfl⟩
theorem Rep.key {H : Hp} {d : D} {v : V} {as : List Addr} {k : List Int} (r : Rep H d v as) (h : keyOf d = some k) : ∃ b q, v = .ref b ∧ H b = some (.frz q (.tup (k.map V.int))) ∧ q.dict = none ∧ as = [] := by
  cases r with
  | @tup a o vs xs _ ha hd s =>
    have e := keyI_eq h
    subst e
    obtain ⟨h1, h2⟩ := reps_intsD s
    subst h1 h2
    exact ⟨a, o, rfl, ha, hd, rfl⟩
  | _ => simp [keyOf] at h
theorem rep_key {H : Hp} {b : Addr} {q : Obj} {k : List Int} (h : H b = some (.frz q (.tup (k.map V.int)))) (hd : q.dict = none) : Rep H (.tup (k.map D.int)) (.ref b) [] := by
  refine .tup h hd ?_
  clear h
  induction k with
  | nil => exact .nil
  | cons i k ih => exact .cons (.int i) ih
theorem atKey_cons (x : List Int × Addr × Value) (xs : Ents) (k : List Int) : atKey (x :: xs) k = if x.1 = k then some x.2 else atKey xs k := by
  unfold atKey
  rw [List.find?_cons]
  by_cases e : x.1 = k
  · simp [e]
  · simp [e]
/-- what is looked up, what is found -/
theorem dval_some {H : Hp} : ∀ {xs : Ents} {ds : List D} {vs : List V} {as : List Addr} {k : List Int} {d : D}, Vals vs (xs.map (·.2.2)) → Reps H ds vs as → dval (xs.map (·.1)) ds k = some d →
    ∃ p v bs cs es, atKey xs k = some p ∧ L2.RelV v p.2 ∧ Rep H d v bs ∧ as = cs ++ bs ++ es
  | [], _, _, _, _, _, _, _, h => by simp [dval] at h
  | x :: xs, _, _, _, k, d, .cons hv hvs, .cons (as := as) (bs := bs) r rs, h => by
    simp only [List.map_cons, dval] at h
    rw [atKey_cons]
    by_cases e : x.1 = k
    · rw [if_pos e] at h; cases h
      rw [if_pos e]
      exact ⟨x.2, _, as, [], bs, rfl, hv, r, by simp⟩
    · rw [if_neg e] at h
      rw [if_neg e]
      obtain ⟨p, v, bs', cs, es, h1, h2, h3, h4⟩ := dval_some (k := k) hvs rs h
      exact ⟨p, v, bs', as ++ cs, es, h1, h2, h3, by rw [h4]; simp [List.append_assoc]⟩
theorem dval_none {α : Type} : ∀ {xs : Ents} {ds : List α} {k : List Int}, ds.length = xs.length → dval (xs.map (·.1)) ds k = none → atKey xs k = none
  | [], _, _, _, _ => rfl
  | x :: xs, [], k, hl, h => by simp at hl
  | x :: xs, d :: ds, k, hl, h => by
    simp only [List.map_cons, dval] at h
    rw [atKey_cons]
    by_cases e : x.1 = k
    · rw [if_pos e] at h; cases h
    · rw [if_neg e] at h ⊢
      exact dval_none (by simpa using hl) h
theorem atKey_has (xs : Ents) (k : List Int) : (atKey xs k).isSome = decide (k ∈ xs.map (·.1)) := by
  induction xs with
  | nil => rfl
  | cons x xs ih =>
    rw [atKey_cons]
    by_cases e : x.1 = k
    · subst e; simp
    · rw [if_neg e, ih, List.map_cons]
      simp [Ne.symm e]
theorem storedH_cons {x : List Int × Addr × Value} {xs : Ents} {k : List Int} {b : Addr} {u : Value} (hn : ((x :: xs).map (·.1)).Nodup) : storedH (x :: xs) k b u = if x.1 = k then (x.1, x.2.1, u) :: xs else x :: storedH xs k b u := by
  rw [List.map_cons, List.nodup_cons] at hn
  unfold storedH
  rw [atKey_cons]
  by_cases e : x.1 = k
  · rw [if_pos e, if_pos e]
    subst e
    rw [if_pos (by rfl), List.map_cons, map_putAt_of_not_mem xs _ u hn.1]
    simp [putAt]
  · rw [if_neg e, if_neg e]
    split
    · rw [List.map_cons]; simp [putAt, e]
    · rfl
theorem stored_keys {k : List Int} {b : Addr} {u : Value} : ∀ {xs : Ents}, (xs.map (·.1)).Nodup → (storedH xs k b u).map (·.1) = kput (xs.map (·.1)) k
  | [], _ => rfl
  | x :: xs, hn => by
    rw [storedH_cons hn, List.map_cons, kput]
    by_cases e : x.1 = k
    · rw [if_pos e, if_pos e]; rfl
    · rw [if_neg e, if_neg e, List.map_cons, stored_keys (List.nodup_cons.mp hn).2]
theorem stored_vals {k : List Int} {b : Addr} {u : Value} {v : V} (hv : L2.RelV v u) : ∀ {xs : Ents} {vs : List V}, (xs.map (·.1)).Nodup → L2.Vals vs (xs.map (·.2.2)) → L2.Vals (vput (xs.map (·.1)) vs k v) ((storedH xs k b u).map (·.2.2))
  | [], _, _, .nil => .cons hv .nil
  | x :: xs, _, hn, .cons h hs => by
    rw [storedH_cons hn, List.map_cons, vput]
    by_cases e : x.1 = k
    · rw [if_pos e, if_pos e]; exact .cons hv hs
    · rw [if_neg e, if_neg e]; exact .cons h (stored_vals hv (List.nodup_cons.mp hn).2 hs)
theorem Reps.vput {H : Hp} {k : List Int} {d : D} {v : V} {bs : List Addr} (q : Rep H d v bs) : ∀ {ks : List (List Int)} {ds : List D} {vs : List V} {as : List Addr}, ks.length = ds.length → Reps H ds vs as →
    ∃ cs ys es, as = cs ++ ys ++ es ∧ Reps H (CB.vput ks ds k d) (CB.vput ks vs k v) (cs ++ bs ++ es)
  | [], [], _, _, _, .nil => ⟨[], [], [], rfl, by simpa [CB.vput] using Reps.cons q .nil⟩
  | k' :: ks, _ :: _, _, _, hl, .cons (as := as) (bs := zs) r rs => by
    simp only [CB.vput]
    by_cases e : k' = k
    · rw [if_pos e, if_pos e]; exact ⟨[], as, zs, by simp, by simpa using Reps.cons q rs⟩
    · rw [if_neg e, if_neg e]
      obtain ⟨cs, ys, es, h1, h2⟩ := Reps.vput (ks := ks) q (by simpa using hl) rs
      exact ⟨as ++ cs, ys, es, by rw [h1]; simp [List.append_assoc], by
        have := Reps.cons r h2
        simpa [List.append_assoc] using this⟩
  | [], _ :: _, _, _, hl, _ => by simp at hl
  | _ :: _, [], _, _, hl, _ => by simp at hl

section
variable {X : Cx} {E : XK}
/-! {} -/
def dnewP : P := cst (.dic [] [])
theorem snd_dnew {pos : Pos} : SndP X E (.Dict [] [] pos) dnewP := ⟨_, pe_dnewI, fun S env σ H Q o w => fun p ob hp hi => w _ _ [p] (Ex.new hp) (.dic (xs := []) upd_same hi .nil .nil) (fun a ha => by simp at ha; subst ha; exact .inr hp) fun _ => ⟨by simp, fun a ha => by simp at ha; subst ha; exact hp⟩⟩
/-! d[k] -/
def dIxD : D → D → Option (Kd × D)
  | .dic ks vs, y => match keyOf y with
    | some k => match dval ks vs k with
      | some d => some (if noL d then .new else .lin, d)
      | none => none
    | none => none
  | _, _ => none
theorem v_ixD : V2 rDIx dIxD := by
  intro H x y v w as bs k d Q r1 r2 hf hq
  cases r1 with
  | @dic a o es ep xs vs ds as' ha hi hv rs =>
    simp only [dIxD] at hf
    split at hf
    · rename_i kk hk
      split at hf
      · rename_i d' hd
        cases hf
        obtain ⟨b, q, e1, e2, e3, e4⟩ := r2.key hk
        subst e1 e4
        obtain ⟨p, v, cs, c1, c2, h1, h2, h3, h4⟩ := dval_some hv rs hd
        refine ⟨a, b, xs, kk, p, v, rfl, rfl, ⟨⟨o, es, ep, ha, hi⟩, q, e2⟩, h1, h2, hq _ H cs (Ex.refl H) h3 ?_⟩
        have := kd_sub h3 h4 [a]
        simpa using this
      · cases hf
    · cases hf
  | _ => simp [dIxD] at hf
/-! k in d -/
def dInD : D → D → Option (Kd × D)
  | y, .dic ks _ => match keyOf y with
    | some k => some (.new, .bl (decide (k ∈ ks)))
    | none => none
  | _, _ => none
def dNotInD : D → D → Option (Kd × D)
  | y, .dic ks _ => match keyOf y with
    | some k => some (.new, .bl (!decide (k ∈ ks)))
    | none => none
  | _, _ => none
theorem v_inD : V2 rDIn dInD := by
  intro H y x w v bs as k d Q r2 r1 hf hq
  cases r1 with
  | @dic a o es ep xs vs ds as' ha hi hv rs =>
    simp only [dInD] at hf
    split at hf
    · rename_i kk hk
      cases hf
      obtain ⟨b, q, e1, e2, e3, e4⟩ := r2.key hk
      subst e1 e4
      refine ⟨a, b, xs, kk, rfl, rfl, ⟨⟨o, es, ep, ha, hi⟩, q, e2⟩, ?_⟩
      rw [atKey_has]
      exact hq _ H [] (Ex.refl H) (.bl _) KdOk.nil
    · cases hf
  | _ => cases y <;> simp [dInD] at hf
theorem v_notInD : V2 rDNotIn dNotInD := by
  intro H y x w v bs as k d Q r2 r1 hf hq
  cases r1 with
  | @dic a o es ep xs vs ds as' ha hi hv rs =>
    simp only [dNotInD] at hf
    split at hf
    · rename_i kk hk
      cases hf
      obtain ⟨b, q, e1, e2, e3, e4⟩ := r2.key hk
      subst e1 e4
      refine ⟨a, b, xs, kk, rfl, rfl, ⟨⟨o, es, ep, ha, hi⟩, q, e2⟩, ?_⟩
      rw [atKey_has]
      exact hq _ H [] (Ex.refl H) (.bl _) KdOk.nil
    · cases hf
  | _ => cases y <;> simp [dNotInD] at hf
/-! d.get(k, x) -/
def dGetD (d y z : D) : Option D := match d with
  | .dic ks vs => match keyOf y with
    | some k => match dval ks vs k with
      | some v => some v
      | none => some z
    | none => none
  | _ => none
def dgetP (a b c : P) : P := fun env => match a env with
  | .ok fa (.dic ks vs) => match b env with
    | .ok fb y => match c env with
      | .ok fc z => match dGetD (.dic ks vs) y z with
        | some d => .ok (gfl fa (.dic ks vs) && gfl fc z) d
        | none => .no
      | .ex x => .ex x
      | .no => .no
    | .ex x => .ex x
    | .no => .no
  | .ok _ _ => .no
  | .ex x => .ex x
  | .no => .no
theorem snd_dget {o e f : Expr} {p q r : P} {apos cpos : Pos} (hu : X.A.units + 1 < cLine) (ho : SndP X E o p) (he : SndP X E e q) (hf : SndP X E f r)
    (hbase : attributeBase o "get" X.env (eval o X.env) = eval o X.env := by rfl)
    (hfew : ((backTo cpos (starEach [e, f] X.env)).all (fun x => !x.1) && (backToKw cpos (keywordEach [] X.env)).all (fun x => x.1.isSome)
    && decide (([e, f] : List Expr).length + ([] : List Keyword).length + (if ([] : List Keyword).isEmpty then 0 else 1) < 30)) = true := by rfl)
    (hline : (apos.endLine == cpos.line) = true := by rfl) (htr : backTo cpos (starEach [e, f] X.env) = [(false, eval e X.env), (false, eval f X.env)] := by rfl) :
    SndP X E (.Call (.Attribute o "get" apos) [e, f] [] cpos) (dgetP p q r) := by
  obtain ⟨t, h1, h2⟩ := ho
  obtain ⟨u, g1, g2⟩ := he
  obtain ⟨z, k1, k2⟩ := hf
  refine ⟨_, pe_dgetI hu h1 g1 k1 ⟨hbase, hfew, hline, htr⟩, fun S env σ H Q ob w => h2 S env σ H _ ob ?_⟩
  unfold dgetP at w
  cases hp : p env with
  | no => rw [hp] at w; exact w
  | ex x => rw [hp] at w; exact w
  | ok fa x =>
    rw [hp] at w
    intro v H1 as e1 r1 m1 n1
    cases r1 with
    | @dic a o es ep xs vs ds as' ha hi hv rs =>
      simp only at w
      refine ⟨a, o, rfl, ha, hi.ex, g2 S env σ H1 _ (ob.mono e1) ?_⟩
      cases hq : q env with
      | no => rw [hq] at w; exact w
      | ex x => rw [hq] at w; exact fun c dx H' e' r => w c dx H' (e1.trans e') r
      | ok fb y =>
        rw [hq] at w
        simp only at w
        intro vy H2 bs e2 r2 m2 n2
        refine k2 S env σ H2 _ (ob.mono (e1.trans e2)) ?_
        cases hr : r env with
        | no => rw [hr] at w; exact w
        | ex x => rw [hr] at w; exact fun c dx H' e' r => w c dx H' ((e1.trans e2).trans e') r
        | ok fc z =>
          rw [hr] at w
          simp only at w
          intro vz H3 cs e3 r3 m3 n3
          cases hg : dGetD (.dic (xs.map (·.1)) ds) y z with
          | none => rw [hg] at w; exact w.elim
          | some d =>
            rw [hg] at w
            simp only [dGetD] at hg
            cases hk : keyOf y with
            | none => rw [hk] at hg; cases hg
            | some kk =>
              rw [hk] at hg
              simp only at hg
              obtain ⟨b, q', z1, z2, z3, z4⟩ := (r2.mono e3).key hk
              subst z1 z4
              have ex13 := e2.trans e3
              have exH := e1.trans ex13
              have hi3 : IsDic H3 a o es ep xs := hi.keep fun c q u h => ex13 c _ h
              have dk : DKey H3 a b xs kk := ⟨⟨o, es, ep, ex13 _ _ ha, hi3⟩, q', z2⟩
              have nn : (gfl fa (.dic (xs.map (·.1)) ds) && gfl fc z) = true → New H (a :: as') ∧ New H cs := fun g => by
                rw [Bool.and_eq_true] at g
                exact ⟨n1 (by simpa [gfl, noL] using g.1), (gfl_new g.2 r3 n3).back (e1.trans e2)⟩
              cases hd : dval (xs.map (·.1)) ds kk with
              | none =>
                rw [hd] at hg; cases hg
                refine ⟨b, xs, kk, rfl, dk, .inl ⟨dval_none (by have := hv.length; rw [rs.length]; simpa using this) hd, w vz H3 cs exH r3 (fun c hc => (m3 c hc).imp_right fun h => (e1.trans e2).back h) fun g => (nn g).2⟩⟩
              | some d' =>
                rw [hd] at hg; cases hg
                obtain ⟨p', v', bs', c1, c2, h1', h2', h3', h4'⟩ := dval_some hv (rs.mono ex13) hd
                refine ⟨b, xs, kk, rfl, dk, .inr ⟨p', v', h1', h2', w v' H3 bs' exH h3' (fun c hc => m1 c (List.mem_cons_of_mem _ (by rw [h4']; simp [hc]))) fun g => ⟨?_, fun c hc => (nn g).1.2 c (List.mem_cons_of_mem _ (by rw [h4']; simp [hc]))⟩⟩⟩
                have nd := (List.nodup_cons.mp (nn g).1.1).2
                rw [h4'] at nd
                exact (List.nodup_append.mp (List.nodup_append.mp nd).1).2.1
    | _ => exact (show False from w).elim
/-! walks -/
def ikeys (p : P) : I := fun env => match p env with
  | .ok f (.dic ks _) => .ok f (ks.map fun k => .tup (k.map D.int))
  | .ok _ _ => .no
  | .ex x => .ex x
  | .no => .no
theorem sndi_keys {tg e : Expr} {p : P} (h : SndP X E e p) : SndI X E tg e (ikeys p) := by
  obtain ⟨t, h1, h2⟩ := h
  refine ⟨_, pi_keysD h1, fun S env σ H R o w => h2 S env σ H _ o ?_⟩
  unfold ikeys at w
  cases hp : p env with
  | no => rw [hp] at w; exact w
  | ex x => rw [hp] at w; exact w
  | ok f d =>
    rw [hp] at w
    intro v H1 as e1 r1 m1 n1
    cases r1 with
    | @dic a ob es ep xs vs ds as' ha hi hv rs =>
      simp only [List.map_map] at w
      have rk : ∀ i (hi' : i < xs.length), Rep H1 (.tup ((xs[i]).1.map D.int)) (.ref (xs[i]).2.1) [] := fun i hi' => by
        obtain ⟨q, h1, h2⟩ := hi.key _ (List.getElem_mem hi')
        exact rep_key h1 h2
      refine ⟨a, ob, es, ep, xs, rfl, ha, hi.nsm, hi.ex, hi.dat, hi.ents, w _ H1 (fun b u => (b = a ∧ u = dO a ob) ∨ (Imm u = true ∧ H1 b = some u)) (fun _ => []) (fun _ => []) e1 ⟨fun i H hl hf => ?_, fun i H x H' hf hy d hd => ?_, fun i H hl hf => ?_, fun _ _ _ _ => rfl⟩ (fun b u z => ?_) (fun i hl => ⟨[], .nil, noMem⟩) (fun z b u hb => ?_) fun b u hb => ?_⟩
      · rw [List.length_map] at hl; exact ⟨hf a _ (.inl ⟨rfl, rfl⟩), hl⟩
      · obtain ⟨e, en, h3, h4⟩ := hy
        subst e h4
        refine ⟨Ex.refl _, fun as ra => ?_⟩
        cases ra
        have hl : i < xs.length := (List.getElem?_eq_some_iff.mp h3).1
        rw [List.getElem?_eq_getElem hl] at h3
        cases h3
        rw [List.getElem?_map, List.getElem?_eq_getElem hl] at hd
        cases hd
        obtain ⟨q, h1, h2⟩ := hi.key _ (List.getElem_mem hl)
        exact rep_key (hf _ _ (.inr ⟨rfl, h1⟩)) h2
      · rw [List.length_map] at hl; exact ⟨hf a _ (.inl ⟨rfl, rfl⟩), hl⟩
      · rcases z with ⟨z1, z2⟩ | ⟨z1, z2⟩
        · subst z1 z2; exact ha
        · exact z2
      · rcases hb with ⟨z1, _⟩ | ⟨z1, _⟩
        · subst z1; exact .inl ((n1 z).2 _ List.mem_cons_self)
        · exact .inr z1
      · rcases hb with ⟨z1, _⟩ | ⟨z1, _⟩
        · subst z1; exact (m1 _ List.mem_cons_self).imp id .inl
        · exact .inr (.inr z1)
    | _ => exact (show False from w).elim
def iitems (p : P) : I := fun env => match p env with
  | .ok f (.dic ks vs) => .ok f (((ks.map fun k => D.tup (k.map D.int)).zip vs).map fun z => .tp0 [z.1, z.2])
  | .ok _ _ => .no
  | .ex x => .ex x
  | .no => .no
theorem sndi_items {e : Expr} {p : P} {elts : List Expr} {kk : Nat} {tpos apos cpos : Pos} (h : SndP X E e p) (hbase : attributeBase e "items" X.env (eval e X.env) = eval e X.env := by rfl) (hline : (apos.endLine == cpos.line) = true := by rfl) :
    SndI X E (.Tuple elts kk tpos) (.Call (.Attribute e "items" apos) [] [] cpos) (iitems p) := by
  obtain ⟨t, h1, h2⟩ := h
  refine ⟨_, pi_itemsD h1 hbase hline, fun S env σ H R o w => h2 S env σ H _ o ?_⟩
  unfold iitems at w
  cases hp : p env with
  | no => rw [hp] at w; exact w
  | ex x => rw [hp] at w; exact w
  | ok f d =>
    rw [hp] at w
    intro v H1 as e1 r1 m1 n1
    cases r1 with
    | @dic a ob es ep xs vs ds as' ha hi hv rs =>
      simp only at w
      have hl0 : vs.length = xs.length := by have := hv.length; simpa using this
      have rk : Reps H1 ((xs.map (·.1)).map fun k => D.tup (k.map D.int)) (xs.map fun x => V.ref x.2.1) [] := by
        have : ∀ (ys : Ents), (∀ y ∈ ys, y ∈ xs) → Reps H1 ((ys.map (·.1)).map fun k => D.tup (k.map D.int)) (ys.map fun x => V.ref x.2.1) [] := by
          intro ys
          induction ys with
          | nil => intro _; exact .nil
          | cons y ys ih =>
            intro h
            obtain ⟨q, h1, h2⟩ := hi.key _ (h y List.mem_cons_self)
            exact .cons (rep_key h1 h2) (ih fun z hz => h z (List.mem_cons_of_mem _ hz))
        exact this xs fun _ h => h
      refine ⟨a, ob, es, ep, xs, vs, rfl, ha, hi.nsm, hi.ex, hi.dat, hi.ents, hv, w _ H1 (fun b u => (b = a ∧ u = dO a ob) ∨ (Imm u = true ∧ H1 b = some u)) _ _ e1 (serves_zip (K := X.K) rk.length rs.length (fun i H x y hf hx hy => ⟨hf a _ (.inl ⟨rfl, rfl⟩), ?_⟩) (fun i H v H' hf ⟨T, en, v', z1, z2, z3, z4, z5⟩ => ⟨T, .ref en.2.1, v', z3, z4, z5, ?_, z2⟩) (fun i H hf hl => ⟨hf a _ (.inl ⟨rfl, rfl⟩), ?_⟩))
        (fun b u z => ?_) (reps_pr rk rs noMem fun c hc => m1 c (List.mem_cons_of_mem _ hc)) (fun z b u hb => ?_) fun b u hb => ?_⟩
      · have := (List.getElem?_eq_some_iff.mp hy).1; omega
      · rw [List.getElem?_map, z1]; rfl
      · rw [List.length_map] at hl; omega
      · rcases z with ⟨z1, z2⟩ | ⟨z1, z2⟩
        · subst z1 z2; exact ha
        · exact z2
      · rcases hb with ⟨z1, _⟩ | ⟨z1, _⟩
        · subst z1; exact .inl ((n1 z).2 _ List.mem_cons_self)
        · exact .inr z1
      · rcases hb with ⟨z1, _⟩ | ⟨z1, _⟩
        · subst z1; exact (m1 _ List.mem_cons_self).imp id .inl
        · exact .inr (.inr z1)
    | _ => exact (show False from w).elim
end
end CB

namespace CB
open PySem L2 PySem.Spec PyProof.Rows
variable [CT]
section
variable {X : Cx} {E : XK}
variable {M N : Addr → Prop} {fx : Addr → HO → Prop} {pin : Nat → Option V} {φ φ' : Lab} {H H' : Hp} {env : Env} {σ : L2.St} {ts us : List Tmp}
/-- the slot's own dict -/
def myDic (env : Env) (i : Nat) : Option (Sl × List (List Int) × List D) := match env[i]? with
  | some s => match s.mine with
    | some (.dic ks vs) => some (s, ks, vs)
    | _ => none
  | none => none
theorem myDic_ok (g : Good M N fx pin φ H env σ ts) {i : Nat} {s : Sl} {ks : List (List Int)} {ds : List D} (h : myDic env i = some (s, ks, ds)) :
    ∃ a o es ep xs vs as, ks = xs.map (·.1) ∧ env[i]? = some s ∧ s.mine = some (.dic ks ds) ∧ σ[i]? = some (some (.ref a)) ∧ ((∃ d, s = .ref d) → pin i = some (.ref a)) ∧ φ a = some (.slot i) ∧ H a = some (dO a o) ∧ IsDic H a o es ep xs ∧ L2.Vals vs (xs.map (·.2.2)) ∧ M a ∧ Reps H ds vs as ∧ (a :: as).Nodup ∧ ∀ b ∈ as, M b ∧ φ b = some (.slot i) := by
  unfold myDic at h
  cases e : env[i]? with
  | none => rw [e] at h; cases h
  | some s' =>
    rw [e] at h
    simp only at h
    cases e2 : s'.mine with
    | none => rw [e2] at h; cases h
    | some d =>
      rw [e2] at h
      cases d <;> cases h
      obtain ⟨v, h1, h2, h3⟩ := (g.slot i s e).mine e2
      obtain ⟨as, r, m, q, n⟩ := h2
      generalize hD : D.dic ks ds = dd at r
      cases r with
      | @dic a o es ep xs vs ds' as' ha hi hv rs =>
        injection hD with k1 k2
        subst k1 k2
        exact ⟨a, o, es, ep, xs, vs, as', rfl, rfl, e2, h1, h3, q a List.mem_cons_self, ha, hi, hv, m a List.mem_cons_self, rs, n rfl, fun b hb => ⟨m b (List.mem_cons_of_mem _ hb), q b (List.mem_cons_of_mem _ hb)⟩⟩
      | _ => cases hD
theorem Reps.updE {xs : List D} {vs : List V} {as : List Addr} {a : Addr} {o0 o1 : HO} (r : Reps H xs vs as) (ha : H a = some o0) (i0 : Imm o0 = false) (n : a ∉ as) : Reps (L2.upd H a o1) xs vs as := r.keep fun c o hc hi => by
  have : c ≠ a := fun z => by
    subst z
    rcases hi with z | z
    · exact n z
    · rw [ha] at hc; cases hc; rw [i0] at z; cases z
  rw [upd_ne this]; exact hc
def setdS (i : Nat) (p : P) (m : GE) : SM := fun env => match m env with
  | .ok o d env1 => match p env1 with
    | .ok _ y => match keyOf y with
      | some k => match myDic env1 i with
        | some (s, ks, vs) => if (o || noL d) && szOk ks.length then .nx (env1.set i (s.put (.dic (kput ks k) (vput ks vs k d)))) else .no
        | none => .no
      | none => .no
    | _ => .no
  | .ex x e => .ex x e
  | .no => .no
theorem snds_setd {i : Nat} {x : Str} {e ix : Expr} {m : GE} {p : P} {px ps pos : Pos} (hu : X.A.units + 1 < cLine) (hN : X.N[i]? = some x) (hvx : Vis X.env.scope x) (h : SndE X E e m) (hi : SndP X E ix p)
    (ha : ∀ v, assign (.Subscript (.Name x px) ix ps) X.env v = (do
      let ov ← holding [v] (eval (.Name x px) X.env)
      let iv ← holding [v, ov] (eval ix X.env)
      standAt ps
      holding [v, ov, iv] (setItem ov iv v)
      release [v, ov, iv] []) := by intro _; rfl)
    (hs : swapsWithSole [.Subscript (.Name x px) ix ps] e pos.line X.env = pure false := by rfl) (hw : swappedStores [.Subscript (.Name x px) ix ps] e X.env = pure none := by rfl)
    (h1 : (assignEach [.Subscript (.Name x px) ix ps] X.env).map (·.2) = [assign (.Subscript (.Name x px) ix ps) X.env] := by rfl)
    (hd : (x == ("__debug__" : Str)) = false := by decide) (hcd : (x == ("__classdict__" : Str)) = false := by decide) :
    SndS X E (.Assign [.Subscript (.Name x px) ix ps] e pos) (setdS i p m) := by
  obtain ⟨t, h1', h2⟩ := h
  obtain ⟨ti, i1, i2⟩ := hi
  refine ⟨_, ps_asg h1' (pg_sub (pe_var hN hvx hd hcd) i1 (set_dic hu) ha) hs hw h1, fun M N fx pin φ H env σ ts K g w => h2 M N fx pin φ H env σ ts _ g ?_⟩
  unfold setdS at w
  cases hm : m env with
  | no => rw [hm] at w; exact w
  | ex x e => rw [hm] at w; exact fun φ' H' c dx g' r => w φ' H' σ c dx g' r
  | ok o d env1 =>
    rw [hm] at w
    intro φ1 H1 v g1
    simp only at w
    cases hp : p env1 with
    | no => rw [hp] at w; exact w.elim
    | ex x => rw [hp] at w; exact w.elim
    | ok f dk =>
      rw [hp] at w
      simp only at w
      cases hk : keyOf dk with
      | none => rw [hk] at w; exact w.elim
      | some k =>
        rw [hk] at w
        simp only at w
        split at w
        · rename_i s ks ds hy
          split at w
          · rename_i hz0
            rw [Bool.and_eq_true] at hz0
            obtain ⟨hz, hsz⟩ := hz0
            obtain ⟨a, oa, es, ep, xs, vs, as, e0, e1, e2, e3, _⟩ := myDic_ok g1 hy
            refine ⟨.ref a, e3, i2 M env1 σ H1 _ g1.obs ?_⟩
            rw [hp]
            intro vk H2 bk ex2 rk _ _
            have g2 := g1.ext ex2
            obtain ⟨a', oa', es', ep', xs', vs', as', e0', e1, e2, e3', e4, e5, e6, ei, ev, e7, e8, e9, e10⟩ := myDic_ok g2 hy
            rw [e3] at e3'; cases e3'
            obtain ⟨b, q, z1, z2, z3, z4⟩ := rk.key hk
            subst z1 z4
            obtain ⟨bs, b1, b2, b3⟩ := own_tmp g2 hz
            have hl : ks.length = ds.length := by
              rw [e0', List.length_map, e8.length]
              have := ev.length; simpa using this.symm
            obtain ⟨cs, ys, es2, c1, c2⟩ := Reps.vput (k := k) b1 hl e8
            have hno := List.nodup_cons.mp e9
            have hab : a ∉ bs := fun z => by have := (b3 _ z).2; rw [e5] at this; cases this
            have sub : ∀ b, b ∈ cs ++ es2 → b ∈ as' := fun b hb => by rw [c1]; simp only [List.mem_append] at hb ⊢; rcases hb with z | z <;> simp [z]
            have memb : ∀ b, b ∈ cs ++ bs ++ es2 → b ∈ bs ∨ b ∈ as' := fun b hb => by
              simp only [List.mem_append] at hb
              rcases hb with (z | z) | z
              · exact .inr (sub b (List.mem_append_left _ z))
              · exact .inl z
              · exact .inr (sub b (List.mem_append_right _ z))
            have disj : ∀ b ∈ as', b ∉ bs := fun b hb hb2 => by have := (b3 _ hb2).2; rw [(e10 b hb).2] at this; cases this
            have nd2 : (cs ++ es2).Nodup := by
              have nd := hno.2
              rw [c1] at nd
              exact nd.sublist (List.Sublist.append (List.sublist_append_left cs ys) (List.Sublist.refl es2))
            have nd3 : (cs ++ bs ++ es2).Nodup := by
              have n := List.nodup_append.mp nd2
              rw [List.append_assoc]
              refine nodup_snoc n.1 (nodup_snoc b2 n.2.1 fun b hb hb2 => disj b (sub b (List.mem_append_right _ hb2)) hb) fun b hb hb2 => ?_
              rcases List.mem_append.mp hb2 with z | z
              · exact disj b (sub b (List.mem_append_left _ hb)) z
              · exact n.2.2 b hb b z rfl
            have naa : a ∉ cs ++ bs ++ es2 := fun z => (memb a z).elim hab hno.1
            refine ⟨a, b, xs', k, rfl, rfl, ⟨⟨oa', es', ep', e6, ei⟩, q, z2⟩, ⟨q, z2, z3⟩, by rw [e0', List.length_map] at hsz; exact szOk_lt hsz, fun o2 es3 ep3 u ru id2 => ?_⟩
            have rr : Rep (upd H2 a (dO a o2)) (.dic (kput ks k) (CB.vput ks ds k d)) (.ref a) (a :: (cs ++ bs ++ es2)) := by
              have := Rep.dic (H := upd H2 a (dO a o2)) upd_same id2 (stored_vals ru ei.nd ev) (by rw [← e0']; exact c2.updE e6 rfl naa)
              rw [stored_keys ei.nd, ← e0'] at this
              exact this
            have gg := g2.mut (us := [(o, d, v)]) (bs := []) (rs := none) (as := a :: (cs ++ bs ++ es2)) e1 e2 e3 e4 e5 e6 rr (List.nodup_cons.mpr ⟨naa, nd3⟩) (fun b hb => ⟨by simp, ?_⟩) (fun d w e => nomatch e) List.nodup_nil fun b z => nomatch z
            · exact w _ _ _ (by simpa using gg)
            · rcases List.mem_cons.mp hb with z | z
              · subst z; exact ⟨e7, .inl e5⟩
              · rcases memb b z with z | z
                · exact ⟨(b3 b z).1, .inr (b3 b z).2⟩
                · exact ⟨(e10 b z).1, .inl (e10 b z).2⟩
          · exact w.elim
        · exact w.elim
end
end CB

namespace CB
open PySem L2 PySem.Spec PyProof.Rows
variable [CT]
/-! ### dict(list of pairs) -/
abbrev PV := List Int × Addr × V
def PairR (p : PV) (q : List Int × Addr × Value) : Prop := p.1 = q.1 ∧ p.2.1 = q.2.1 ∧ L2.RelV p.2.2 q.2.2
def PairV (K : PySem.W.Frag) (H : Hp) (v : V) (p : PV) : Prop := ∃ T, v = .ref T ∧ SqT K H T [.ref p.2.1, p.2.2] ∧ ∃ q, H p.2.1 = some (.frz q (.tup (p.1.map V.int))) ∧ q.dict = none
section
variable {X : Cx} {pins : List (Addr × Obj)} {σ : L2.St} {H : Hp} {s : Shared}
theorem pairs_at (I : L2.Inv X pins σ H s) : ∀ {vs : List V} {pv : List PV}, Paired (PairV X.K H) vs pv → ∃ ps : Ents, Paired PairR pv ps ∧ Paired (fun v (x : List Int × Addr × Value) => ∃ T, v = .ref T ∧ PairAt s.heap T (.ref x.2.1) x.2.2) vs ps
  | _, _, .nil => ⟨[], .nil, .nil⟩
  | _, _, .cons h t => by
    obtain ⟨ps, h1, h2⟩ := pairs_at I t
    obtain ⟨T, e, hs, _⟩ := h
    obtain ⟨its, r, p, _⟩ := I.tuple hs
    cases r with
    | cons ra r =>
      cases r with
      | cons rb r =>
        cases r
        cases ra
        exact ⟨(_, _, _) :: ps, .cons ⟨rfl, rfl, rb⟩ h1, .cons ⟨T, e, .inl p⟩ h2⟩
theorem paired_get2 {α β : Type} {R : α → β → Prop} : ∀ {as : List α} {bs : List β}, Paired R as bs → ∀ {j : Nat} {b : β}, bs[j]? = some b → ∃ a, as[j]? = some a ∧ R a b
  | _, _, .nil, j, b, h => by simp at h
  | _, _, .cons r t, 0, b, h => by simp at h; subst h; exact ⟨_, rfl, r⟩
  | _, _, .cons r t, j + 1, b, h => by
    obtain ⟨a, h1, h2⟩ := paired_get2 t (j := j) (by simpa using h)
    exact ⟨a, by simpa using h1, h2⟩
def rDictOf (K : PySem.W.Frag) : List V → Hp → VK → Prop := fun xs H Q => ∃ l vs pv, xs = [.ref l] ∧ H l = some (.lst vs) ∧ Paired (PairV K H) vs pv ∧
  ∀ p o es ep ps, H p = none → Paired PairR pv ps → IsDic (upd H p (dO p o)) p o es ep (storedAllH [] ps) → Q (.ref p) (upd H p (dO p o))
theorem storedAll_mem : ∀ {ps acc : Ents} {x : List Int × Addr × Value}, x ∈ storedAllH acc ps → ∃ y ∈ acc ++ ps, y.1 = x.1 ∧ y.2.1 = x.2.1
  | [], acc, x, h => ⟨x, by simpa [storedAllH] using h, rfl, rfl⟩
  | p :: ps, acc, x, h => by
    have h' : x ∈ storedAllH (storedH acc p.1 p.2.1 p.2.2) ps := h
    obtain ⟨y, hy, e1, e2⟩ := storedAll_mem h'
    rcases List.mem_append.mp hy with z | z
    · rcases storedH_mem z with ⟨u, hu, k1, k2⟩ | ⟨k1, k2⟩
      · exact ⟨u, by simp [hu], k1.trans e1, k2.trans e2⟩
      · exact ⟨p, by simp, k1.symm.trans e1, k2.symm.trans e2⟩
    · exact ⟨y, by simp [z], e1, e2⟩
theorem cr_dictOf (hc : X.calm = true) (hu : X.A.units + 3 < cLine) : CallR X (.type "dict") (rDictOf X.K) := by
  intro pins s σ H xs us Q I r h
  obtain ⟨l, vs, pv, rfl, hl, hp, hQ⟩ := h
  obtain ⟨u, rfl, ru⟩ := vals1 r
  cases ru
  obtain ⟨its, n, rv, ho, hz⟩ := I.lst hl
  obtain ⟨ps, p1, p2⟩ := pairs_at I hp
  have len1 : vs.length = ps.length := Paired.length p2
  have hpi : PairItems s.heap its.toArray (fun j => match vs[j]? with | some (.ref T) => T | _ => 0) (ps.map fun x => (Value.ref x.2.1, x.2.2)) := by
    refine ⟨by rw [List.size_toArray, ← rv.length, List.length_map, len1], fun j k v hj => ?_⟩
    rw [List.getElem?_map] at hj
    cases e : ps[j]? with
    | none => rw [e] at hj; cases hj
    | some x =>
      rw [e] at hj
      cases hj
      obtain ⟨v, h1, T, h2, h3⟩ := paired_get2 p2 e
      subst h2
      obtain ⟨u, hu1, hu2⟩ := rv.get h1
      cases hu2
      simp only [h1]
      exact ⟨by simpa using hu1, h3⟩
  have keys : ∀ x ∈ ps, ∃ q, H x.2.1 = some (.frz q (.tup (x.1.map V.int))) ∧ q.dict = none := by
    intro x hx
    obtain ⟨j, hj⟩ := List.mem_iff_getElem?.mp hx
    obtain ⟨p, h1, e1, e2, _⟩ := paired_get2 p1 hj
    obtain ⟨v, h2, T, _, _, hk⟩ := paired_get2 hp h1
    rw [← e1, ← e2]; exact hk
  have big := I.big
  refine call_dict_pairsH (knd := tupleKind (PySem.intKind X.prog X.w)) (ps := ps) (PairArg.list l its.toArray _ (ps.map fun x => (Value.ref x.2.1, x.2.2))) (I.ok.hd hc) (show X.A.units + 1 + 1 < cLine by omega) ⟨⟨_, n, ho, rfl, rfl, rfl⟩, hpi⟩ ⟨by simp, fun i key v hr => ?_⟩ (fun h' hk x hx => ?_) (by rw [List.length_map, ← len1]; exact hz) fun h' tk hd' hk => ?_
  · have hr' : (ps.map fun x => (Value.ref x.2.1, x.2.2))[i]? = some (key, v) := hr
    rw [List.getElem?_map] at hr'
    cases e : ps[i]? with
    | none => rw [e] at hr'; cases hr'
    | some x => rw [e] at hr'; cases hr'; exact ⟨x.1, x.2.1, rfl, rfl⟩
  · obtain ⟨q, h1, h2⟩ := keys x hx
    obtain ⟨o, items, m, k1, k2⟩ := key_int (P := X.prog) (w := X.w) I.hok h1
    exact ⟨o, items, m, hk _ _ (Nat.ne_of_lt (Heap.lt_size k1)) (fun z => nomatch z) k1, k2⟩
  · obtain ⟨o, es, ep, hq, h2, h3, h4, _, h5⟩ := hd'
    have hf : H s.heap.objs.size = none := I.hok.fresh (Nat.le_refl _)
    refine ⟨.ref s.heap.objs.size, _, L2.Inv.laid (a := s.heap.objs.size) (o := dO s.heap.objs.size o) (t' := tk) I (fun b o e => hk b o (fun z => nomatch z) e) (Nat.le_refl _) (dO_ok hq), rfl, hQ _ o es ep ps hf p1 ⟨beq_eq_false_iff_ne.mpr (Nat.ne_of_gt big), h2, h3, h4, h5, ?_, fun x hx => ?_⟩⟩
    · have := storedAllH_length ps []
      simp only [List.length_nil, Nat.zero_add] at this
      omega
    · obtain ⟨y, hy, e1, e2⟩ := storedAll_mem hx
      obtain ⟨q, h6, h7⟩ := keys y (by simpa using hy)
      rw [← e1, ← e2]
      exact ⟨q, by rw [upd_ne (ne_of_none h6 hf)]; exact h6, h7⟩
end
def pairsD : List D → Option (List (List Int × D))
  | [] => some []
  | .tup [k, v] :: ds => match keyOf k with
    | some kk => match pairsD ds with
      | some r => if noL v then some ((kk, v) :: r) else none
      | none => none
    | none => none
  | _ :: _ => none
def putAll : List (List Int × D) → List (List Int) → List D → List (List Int) × List D
  | [], ks, vs => (ks, vs)
  | (k, d) :: r, ks, vs => putAll r (kput ks k) (vput ks vs k d)
def dDictOf : List D → Option (Kd × D)
  | [.lst xs] => match pairsD xs with
    | some kvs => some (.new, .dic (putAll kvs [] []).1 (putAll kvs [] []).2)
    | none => none
  | _ => none
/-- the pairs, their trees -/
def PairD (H : Hp) (p : PV) (kd : List Int × D) : Prop := p.1 = kd.1 ∧ Rep H kd.2 p.2.2 []
theorem pairsD_ok {K : PySem.W.Frag} {H : Hp} : ∀ {xs : List D} {vs : List V} {as : List Addr} {kvs : List (List Int × D)}, Reps H xs vs as → pairsD xs = some kvs → as = [] ∧ ∃ pv, Paired (PairV K H) vs pv ∧ Paired (PairD H) pv kvs
  | [], _, _, _, .nil, h => by cases h; exact ⟨rfl, [], .nil, .nil⟩
  | x :: xs, _, _, kvs, .cons r rs, h => by
    cases r with
    | @tup a o vs xs' as' ha hd s =>
      cases s with
      | nil => simp [pairsD] at h
      | cons r1 s =>
        cases s with
        | nil => simp [pairsD] at h
        | cons r2 s =>
          cases s with
          | cons _ _ => simp [pairsD] at h
          | nil =>
            simp only [pairsD] at h
            split at h
            · rename_i kk hk
              split at h
              · rename_i r' hr
                split at h
                · rename_i hn
                  cases h
                  obtain ⟨h1, pv, h2, h3⟩ := pairsD_ok (K := K) rs hr
                  obtain ⟨b, q, e1, e2, e3, e4⟩ := r1.key hk
                  subst e1 e4 h1
                  have e5 := r2.noL hn
                  subst e5
                  exact ⟨rfl, (kk, b, _) :: pv, .cons ⟨a, rfl, SqT.frz ha, q, e2, e3⟩ h2, .cons ⟨rfl, r2⟩ h3⟩
                · cases h
              · cases h
            · cases h
    | _ => simp [pairsD] at h
theorem putAll_ok {H : Hp} : ∀ {kvs : List (List Int × D)} {pv : List PV} {ps acc : Ents} {ds : List D} {vs : List V}, Paired (PairD H) pv kvs → Paired PairR pv ps → (acc.map (·.1)).Nodup → L2.Vals vs (acc.map (·.2.2)) → Reps H ds vs [] →
    (putAll kvs (acc.map (·.1)) ds).1 = (storedAllH acc ps).map (·.1) ∧ ∃ vs', L2.Vals vs' ((storedAllH acc ps).map (·.2.2)) ∧ Reps H (putAll kvs (acc.map (·.1)) ds).2 vs' []
  | [], _, _, _, _, vs, .nil, .nil, hn, hv, hr => ⟨rfl, vs, hv, hr⟩
  | kd :: kvs, _, _, acc, ds, vs, .cons (a := p) h1 t1, .cons (b := q) h2 t2, hn, hv, hr => by
    obtain ⟨e1, r1⟩ := h1
    obtain ⟨e2, e3, r2⟩ := h2
    have hl : (acc.map (·.1)).length = ds.length := by
      rw [List.length_map, hr.length]; have := hv.length; simpa using this.symm
    obtain ⟨cs, ys, es, c1, c2⟩ := Reps.vput (k := kd.1) r1 hl hr
    have c3 : cs = [] ∧ ys = [] ∧ es = [] := by
      have := congrArg List.length c1
      simp at this
      exact ⟨List.eq_nil_of_length_eq_zero (by omega), List.eq_nil_of_length_eq_zero (by omega), List.eq_nil_of_length_eq_zero (by omega)⟩
    obtain ⟨z1, z2, z3⟩ := c3
    subst z1 z2 z3
    have ek : kd.1 = q.1 := e1.symm.trans e2
    have hk := stored_keys (k := kd.1) (b := q.2.1) (u := q.2.2) hn
    have hnd : ((storedH acc kd.1 q.2.1 q.2.2).map (·.1)).Nodup := by
      rw [hk]
      clear hk c2 hv hr hl
      generalize acc.map (·.1) = ks at hn
      induction ks with
      | nil => simp [kput]
      | cons k ks ih =>
        rw [kput]
        split
        · exact hn
        · rename_i hne
          have hn' := List.nodup_cons.mp hn
          refine List.nodup_cons.mpr ⟨fun hm => ?_, ih hn'.2⟩
          have : ∀ {l : List (List Int)} {x : List Int}, x ∈ kput l kd.1 → x ∈ l ∨ x = kd.1 := by
            intro l
            induction l with
            | nil => intro x hx; simp [kput] at hx; exact .inr hx
            | cons a l ih =>
              intro x hx
              rw [kput] at hx
              split at hx
              · exact .inl hx
              · rcases List.mem_cons.mp hx with z | z
                · subst z; exact .inl List.mem_cons_self
                · exact (ih z).imp (List.mem_cons_of_mem _) id
          rcases this hm with z | z
          · exact hn'.1 z
          · exact hne z
    have hv' := stored_vals (k := kd.1) (b := q.2.1) (u := q.2.2) r2 hn hv
    have := putAll_ok (acc := storedH acc kd.1 q.2.1 q.2.2) t1 t2 hnd hv' (by simpa using c2)
    rw [hk] at this
    have e : ∀ rest : Ents, storedAllH acc (q :: rest) = storedAllH (storedH acc kd.1 q.2.1 q.2.2) rest := fun rest => by unfold storedAllH; rw [List.foldl_cons, ek]
    rw [e]
    exact this
theorem v_dictOf (K : PySem.W.Frag) : VN (rDictOf K) dDictOf := by
  intro H ds vs as k d Q r hf hq
  match ds, r, hf with
  | [.lst xs], r, hf =>
    simp only [dDictOf] at hf
    cases hk : pairsD xs with
    | none => rw [hk] at hf; cases hf
    | some kvs =>
      rw [hk] at hf
      cases hf
      obtain ⟨v, ev, rv⟩ := r.one
      subst ev
      cases rv with
      | @lst a vs _ as' ha s =>
        obtain ⟨h1, pv, h2, h3⟩ := pairsD_ok (K := K) s hk
        subst h1
        refine ⟨a, vs, pv, rfl, ha, h2, fun p o es ep ps hp h4 hi => ?_⟩
        have ex : Ex H (upd H p (dO p o)) := Ex.new hp
        have h3' : Paired (PairD (upd H p (dO p o))) pv kvs := Paired.mapP h3 fun a b h => ⟨h.1, h.2.mono ex⟩
        obtain ⟨k1, vs', k2, k3⟩ := putAll_ok (acc := []) (ds := []) (vs := []) h3' h4 List.nodup_nil .nil .nil
        refine hq _ _ [p] ex ?_ (KdOk.mk1 ⟨by simp, fun a ha => by simp at ha; subst ha; exact hp⟩)
        have := Rep.dic (H := upd H p (dO p o)) upd_same hi k2 k3
        rw [← k1] at this
        exact this
end CB

namespace CB
open PySem L2 PySem.Spec PyProof.Rows
variable [CT]
/-! ### a def that changes its parameter r, called with a new value there -/
inductive AF where
  | ok (fds : List (Bool × D)) | ex (x : Xn) | no
def argsF : List P → Env → AF
  | [], _ => .ok []
  | p :: ps, env => match p env with
    | .ok f d => match argsF ps env with
      | .ok fds => .ok ((f, d) :: fds)
      | .ex x => .ex x
      | .no => .no
    | .ex x => .ex x
    | .no => .no
/-- each argument's nodes -/
def Parts (S : Addr → Prop) (H H' : Hp) (fds : List (Bool × D)) (vs : List V) : Prop :=
  fds.length = vs.length ∧ ∃ ass : Nat → List Addr, (∀ i f d v, fds[i]? = some (f, d) → vs[i]? = some v → Rep H' d v (ass i) ∧ (∀ a ∈ ass i, S a ∨ H a = none) ∧ (f = true → New H (ass i) ∧ ∀ j, j ≠ i → j < fds.length → ∀ a ∈ ass i, a ∉ ass j))
def AFWant (S : Addr → Prop) (mg : Str → Option Value) (H : Hp) (Q : List V → Hp → Prop) (E : XK) : AF → Prop
  | .ok fds => ∀ vs H', Ex H H' → Parts S H H' fds vs → Q vs H'
  | .ex x => ∀ c dx H', Ex H H' → XR mg x c dx H' → E c dx H'
  | .no => False
def SndAF (X : Cx) (E : XK) (es : List Expr) (ps : List P) : Prop := ∃ t, PA X es t ∧ ∀ (S : Addr → Prop) env σ H Q, ObsEnv S H env σ → (∀ a, S a → H a ≠ none) → AFWant S X.mg H Q E (argsF ps env) → t σ H Q
section
variable {X : Cx} {E : XK}
theorem sndaf_nil : SndAF X E [] [] := ⟨_, pa_nil, fun S env σ H Q _ _ w => w [] H (Ex.refl H) ⟨rfl, fun _ => [], fun i f d v h => by simp at h⟩⟩
theorem sndaf_cons {e : Expr} {es : List Expr} {p : P} {ps : List P} (h : SndP X E e p) (hs : SndAF X E es ps) (hst : starEach (e :: es) X.env = (false, eval e X.env) :: starEach es X.env := by rfl) : SndAF X E (e :: es) (p :: ps) := by
  obtain ⟨t, h1, h2⟩ := h
  obtain ⟨u, h3, h4⟩ := hs
  refine ⟨_, pa_cons h1 h3 hst, fun S env σ H Q o hS w => h2 S env σ H _ o ?_⟩
  cases hp : p env with
  | no => simp only [argsF, hp] at w; exact w
  | ex x => simp only [argsF, hp] at w; exact w
  | ok f d =>
    intro v H1 as e1 r1 m1 n1
    refine h4 S env σ H1 _ (o.mono e1) (fun a ha hn => hS a ha (e1.back hn)) ?_
    cases hq : argsF ps env with
    | no => simp only [argsF, hp, hq] at w; exact w.elim
    | ex x => simp only [argsF, hp, hq] at w; exact fun c dx H' e' r => w c dx H' (e1.trans e') r
    | ok fds =>
      simp only [argsF, hp, hq] at w
      intro vs H2 e2 ⟨hl, ass, ha⟩
      have out : ∀ i a, i < fds.length → a ∈ ass i → S a ∨ H1 a = none := fun i a hi hm => by
        obtain ⟨_, q, _⟩ := ha i _ _ (vs[i]'(by omega)) (List.getElem?_eq_getElem hi) (by simp)
        exact q a hm
      refine w (v :: vs) H2 (e1.trans e2) ⟨by simp [hl], fun i => match i with | 0 => as | i + 1 => ass i, fun i f' d' v' hf hv => ?_⟩
      cases i with
      | zero =>
        simp at hf hv
        obtain ⟨z1, z2⟩ := hf
        subst z1 z2 hv
        refine ⟨r1.mono e2, m1, fun z => ⟨n1 z, fun j hj hjl a hm hm2 => ?_⟩⟩
        cases j with
        | zero => exact hj rfl
        | succ j =>
          rcases out j a (by simpa using hjl) hm2 with y | y
          · exact hS a y ((n1 z).2 a hm)
          · exact r1.ne a hm y
      | succ i =>
        obtain ⟨q1, q2, q3⟩ := ha i f' d' v' (by simpa using hf) (by simpa using hv)
        refine ⟨q1, fun a hm => (q2 a hm).imp_right fun z => e1.back z, fun z => ⟨(q3 z).1.back e1, fun j hj hjl a hm hm2 => ?_⟩⟩
        cases j with
        | zero => exact r1.ne a hm2 ((q3 z).1.2 a hm)
        | succ j => exact (q3 z).2 j (fun y => hj (by rw [y])) (by simpa using hjl) a hm hm2
def callPR (r n : Nat) (F : List D → RR) (ps : List P) : P := fun env => match argsF ps env with
  | .ok fds => if decide (fds.length = n) then match fds[r]? with
      | some (true, _) => match F (fds.map (·.2)) with
        | .ok o d _ => if o || noL d then .ok true d else .no
        | .ex x _ => .ex x
        | .no => .no
      | _ => .no
    else .no
  | .ex x => .ex x
  | .no => .no
variable {x : Str} {k n j r : Nat} {pn : List Str} {p pos : Pos} {e : Expr} {es : List Expr} {ps : List P}
theorem sndcR {F : List D → RR} (C : Cal X.prog X.w X.K X.mg X.base x k pn (spR n r X.mg F)) (hr : RoomG j X.A) (hj : k ≤ j) (hx : Passes (L2.CX X.prog X.w) X E) (hg : Gl X x) (h : SndAF X E (e :: es) ps)
    (hdb : (x == ("__debug__" : Str)) = false := by decide) (he : starEach (e :: es) X.env = (false, eval e X.env) :: starEach es X.env := by rfl) (hpl : (backTo pos (starEach es X.env)).any (·.1) = false := by rfl) : SndP X E (.Call (.Name x p) (e :: es) [] pos) (callPR r n F ps) := by
  obtain ⟨f, fd, G, hm, hk, hb⟩ := C
  obtain ⟨t, h1, h2⟩ := h
  refine ⟨_, pe_callG G (hr.mono hj) hg hm hk hb hx h1 hdb he hpl, fun S env σ H Q o w => h2 (fun a => S a ∧ H a ≠ none) env σ H _ ⟨o.len, fun i d hd => ?_⟩ (fun a ha => ha.2) ?_⟩
  · obtain ⟨v, as, q1, q2, q3⟩ := o.get i d hd
    exact ⟨v, as, q1, q2, fun a ha => ⟨q3 a ha, q2.ne a ha⟩⟩
  unfold callPR at w
  cases hp : argsF ps env with
  | no => rw [hp] at w; exact w
  | ex x => rw [hp] at w; exact w
  | ok fds =>
    rw [hp] at w
    simp only at w
    split at w
    · rename_i hn
      have hn := of_decide_eq_true hn
      split at w
      · rename_i d0 hd0
        intro vs H1 e1 ⟨hl, ass, ha⟩
        show spR n r X.mg F (vs ++ []) H1 Q E
        rw [List.append_nil]
        have hrl : r < fds.length := (List.getElem?_eq_some_iff.mp hd0).1
        have hv0 : vs[r]? = some (vs[r]'(by omega)) := by simp
        obtain ⟨q1, q2, q3⟩ := ha r _ _ _ hd0 hv0
        obtain ⟨nw, dj⟩ := q3 rfl
        refine ⟨by omega, fds.map (·.2), d0, vs[r]'(by omega), ass r, by simp [hn], by rw [List.getElem?_map, hd0]; rfl, hv0, q1, nw.1, fun i hi d v hd hv => ?_, ?_⟩
        · rw [List.getElem?_map] at hd
          cases hfi : fds[i]? with
          | none => rw [hfi] at hd; cases hd
          | some fd' =>
            rw [hfi] at hd
            cases hd
            obtain ⟨z1, z2, _⟩ := ha i fd'.1 fd'.2 v hfi hv
            exact ⟨ass i, z1, fun a hm hm2 => dj i hi (List.getElem?_eq_some_iff.mp hfi).1 a hm2 hm⟩
        · have exf : ∀ {H' : Hp}, (∀ a u, H1 a = some u → a ∉ ass r → H' a = some u) → Ex H H' := fun fr a u hu => fr a u (e1 a u hu) fun hm => by rw [nw.2 a hm] at hu; cases hu
          cases hF : F (fds.map (·.2)) with
          | no => rw [hF] at w; exact w
          | ex x dr => rw [hF] at w; exact fun c dx H' as' fr _ _ _ xr => w c dx H' (exf fr) xr
          | ok o2 d dr =>
            rw [hF] at w
            simp only at w
            split at w
            · rename_i ho
              intro v H' as' cs fr _ _ _ rd hc
              have hcs : New H cs := by
                cases o2 with
                | true =>
                  obtain ⟨c1, c2⟩ := hc rfl
                  exact ⟨c1, fun a ha => (c2 a ha).2.elim (fun z => nw.2 a z) fun z => e1.back z⟩
                | false =>
                  rw [rd.noL (by simpa using ho)]; exact .nil _
              exact w v H' cs (exf fr) rd (fun a ha => .inr (hcs.2 a ha)) fun _ => hcs
            · exact w.elim
      · exact w.elim
    · exact w.elim
end
theorem unA {k : Nat} {A : Around} (r : RoomG k A) : A.units + 1 < cLine := by have := r.un; omega
theorem unC {k : Nat} {A : Around} (r : RoomG k A) : A.units + 3 < cLine := by have := r.un; omega
end CB

namespace CB
open PySem L2 PySem.Spec PyProof.Rows
variable [CT]
section
variable {X : Cx} {E : XK}
/-- a built-in called with one keyword, a constant -/
theorem snd_bk {x kw : Str} {id : String} {e ke : Expr} {es : List Expr} {ps : List P} {p pos kpos : Pos} {r : List V → Hp → VK → Prop} {f : List D → Option (Kd × D)} {c : V} {tk : TE} (hc : CallRK X (.builtin id) [kw] (fun vs zs H Q => zs = [c] ∧ r vs H Q)) (hv : VN r f) (hke : PE X ke tk) (htk : ∀ σ H Q, Q c H → tk σ H Q)
    (hg : Gl X x) (hm : X.mg x = none) (hb : bootBuiltins x = some (.builtin id)) (h : SndA X E (e :: es) ps)
    (hn : x ≠ "__name__" := by decide) (hdb : (x == ("__debug__" : Str)) = false := by decide)
    (he : backTo pos (starEach (e :: es) X.env) = (false, eval e X.env) :: backTo pos (starEach es X.env) := by rfl) (hpl : (backTo pos (starEach (e :: es) X.env)).any (·.1) = false := by rfl)
    (hall : (backToKw pos (keywordEach [⟨some kw, ke, kpos⟩] X.env)).all (·.1.isSome) = true := by rfl) (hnone : (backToKw pos (keywordEach [⟨some kw, ke, kpos⟩] X.env)).any (·.1.isNone) = false := by rfl) (hks : (backToKw pos (keywordEach [⟨some kw, ke, kpos⟩] X.env)).filterMap (·.1) = [kw] := by rfl) :
    SndP X E (.Call (.Name x p) (e :: es) [⟨some kw, ke, kpos⟩] pos) (opN f ps) := by
  obtain ⟨t, h1, h2⟩ := h
  refine ⟨_, pe_callBK hc hg hm hb h1 (pk_cons (nm := some kw) (kpos := kpos) hke pk_nil) hn hdb he hpl hall hnone hks, fun S env σ H Q o w => h2 S env σ H _ o ?_⟩
  unfold opN at w
  cases hp : args ps env with
  | no => rw [hp] at w; exact w
  | ex x => rw [hp] at w; exact w
  | ok g ds =>
    rw [hp] at w
    intro vs H1 as e1 r1 m1 n1
    simp only [AR.bind] at w
    cases hf : f ds with
    | none => rw [hf] at w; exact w.elim
    | some kd =>
      obtain ⟨k, d⟩ := kd
      rw [hf] at w
      exact htk σ H1 _ ⟨rfl, hv H1 ds vs as k d Q r1 hf fun z H2 cs e2 r2 kk => w z H2 cs (e1.trans e2) r2 (kd_mem e1 m1 kk) (kd_new e1 n1 kk)⟩
theorem snd_sortV {e : Expr} {es : List Expr} {ps : List P} {p pos kp kpos : Pos} {j : Nat} (hu : X.A.units + 64 < cLine) (hg : Gl X "sorted") (hm : X.mg "sorted" = none) (h : SndA X E (e :: es) ps)
    (he : backTo pos (starEach (e :: es) X.env) = (false, eval e X.env) :: backTo pos (starEach es X.env) := by rfl) (hpl : (backTo pos (starEach (e :: es) X.env)).any (·.1) = false := by rfl)
    (hall : (backToKw pos (keywordEach [⟨some "reverse", .Constant (.bool true) j kp, kpos⟩] X.env)).all (·.1.isSome) = true := by rfl) (hnone : (backToKw pos (keywordEach [⟨some "reverse", .Constant (.bool true) j kp, kpos⟩] X.env)).any (·.1.isNone) = false := by rfl) (hks : (backToKw pos (keywordEach [⟨some "reverse", .Constant (.bool true) j kp, kpos⟩] X.env)).filterMap (·.1) = [("reverse" : Str)] := by rfl) :
    SndP X E (.Call (.Name "sorted" p) (e :: es) [⟨some "reverse", .Constant (.bool true) j kp, kpos⟩] pos) (opN (dSortR true) ps) :=
  snd_bk (cr_sortGR hu) (v_sortR _ true) pe_bl (fun _ _ _ q => q) hg hm bt_sorted h (by decide) (by decide) he hpl hall hnone hks
end
end CB

namespace CB
open PySem L2 PySem.Spec PyProof.Rows
variable [CT]
/-! ### tuple * int, list * int -/
omit [CT] in
theorem tuple_mul1 (l : Addr) (items : Array Value) (n : Nat) (dd : Option Addr) (sl : Array (Option Value)) (x : Int) (u : Tok) (c0 : (decide (x < -(2 ^ 63)) || decide (x ≥ 2 ^ 63)) = false) (c1 : (items.isEmpty || x == 1) = true) :
    Meets (Builtin.«tuple.__mul__» ⟨[.ref l, .int x u], []⟩) (fun _ R s => s.heap.get? l = some { cls := .type "tuple", dict := dd, data := .seq items n, slots := sl } ∧ R (.ok (.ret (Value.ref l))) s) :=
  .of_wp fun prog w A R s h => by
    obtain ⟨hp, g, d, tk, os⟩ := s
    obtain ⟨hl, h⟩ := h
    have f1 := AutoSeq1.idx_int
    wp_walk using wpAny_loadPart' hl
    repeat (first
      | (refine wpAny_ite_false (decide_eq_false (by rw [c0]; exact Bool.false_ne_true)) ?_; wp_walk using wpAny_loadPart' hl)
      | (refine wpAny_ite_true (decide_eq_true c1) ?_; wp_walk using wpAny_loadPart' hl))
    exact ⟨_, rfl, h⟩
omit [CT] in
theorem tuple_mul0 (l : Addr) (items : Array Value) (n : Nat) (dd : Option Addr) (sl : Array (Option Value)) (x : Int) (u : Tok) (c0 : (decide (x < -(2 ^ 63)) || decide (x ≥ 2 ^ 63)) = false) (c1 : (items.isEmpty || x == 1) = false) (c2 : (decide (x ≤ 0) || items.isEmpty) = true) :
    Meets (Builtin.«tuple.__mul__» ⟨[.ref l, .int x u], []⟩) (fun _ R s => s.heap.get? l = some { cls := .type "tuple", dict := dd, data := .seq items n, slots := sl } ∧
      R (.ok (.ret (Value.ref s.heap.objs.size))) { s with heap := s.heap.push { cls := Value.type "tuple", data := Data.seq #[] }, toks := s.toks }) :=
  .of_wp fun prog w A R s h => by
    obtain ⟨hp, g, d, tk, os⟩ := s
    obtain ⟨hl, h⟩ := h
    have f1 := AutoSeq1.idx_int
    wp_walk using wpAny_loadPart' hl
    repeat (first
      | (refine wpAny_ite_false (decide_eq_false (by rw [c0]; exact Bool.false_ne_true)) ?_; wp_walk using wpAny_loadPart' hl)
      | (refine wpAny_ite_false (decide_eq_false (by rw [c1]; exact Bool.false_ne_true)) ?_; wp_walk using wpAny_loadPart' hl)
      | (refine wpAny_ite_true (decide_eq_true c2) ?_; wp_walk using wpAny_loadPart' hl))
    exact ⟨_, rfl, h⟩
def repF {α : Type} (k : Int) (xs : List α) : List α := (List.replicate k.toNat xs).flatten
def rMulT (K : PySem.W.Frag) : R2 := fun x y H Q => ∃ l k xs, x = .ref l ∧ y = .int k ∧ SqT K H l xs ∧ xs ≠ [] ∧ -1000 ≤ k ∧ k ≤ 1000 ∧ xs.length ≤ 1000 ∧ (k = 1 → Q (.ref l) H) ∧ (k ≠ 1 → NewT (repF k xs) H Q)
section
variable {X : Cx}
theorem op_mulT : OpR X (binaryOp .Mult) (rMulT X.K) := by
  intro pins s σ H x y v u Q I rx ry h
  obtain ⟨l, k, xs, rfl, rfl, hT, hne, h1, h2, hz, q1, q2⟩ := h
  cases rx
  obtain ⟨t, rfl⟩ := ry
  obtain ⟨its, r, ⟨⟨cls, dd, data, sl⟩, ho, hc, n, hd⟩, hs⟩ := I.tuple hT
  simp only at hc hd
  subst hc hd
  have hle : its.length = xs.length := r.length.symm
  have hn : its ≠ [] := fun e => hne (by
    rw [e] at hle
    exact List.eq_nil_of_length_eq_zero hle.symm)
  have hi : its.toArray.isEmpty = false := by
    cases its with
    | nil => exact absurd rfl hn
    | cons a b => rfl
  have hsz0 : its.toArray.size = xs.length := by rw [List.size_toArray, hle]
  have c0 : (decide (k < -(2 ^ 63)) || decide (k ≥ 2 ^ 63)) = false := by
    rw [decide_eq_false (by omega), decide_eq_false (by omega)] <;> rfl
  refine wpAny_binaryOp_repeat_ref (T := "tuple") (U := "int") (by decide) ⟨_, ho, rfl⟩ (fun s' => typeIs_int s' k t) noFill_tuple_mul F.fills_int_mul F.slot_int_rmul repeat_tuple F.slot_int_index.lookup
    (call_meets F.slot_int_rmul (typeIs_int s k t) F.entry_int_rmul (F.args_int_rmul_2 _ _) (int_rmul_tuple k t l its.toArray n dd sl)
      ⟨ho, rfl, ⟨_, ho, rfl⟩, ?_⟩)
  by_cases hk1 : k = 1
  · have c1 : (its.toArray.isEmpty || k == 1) = true := by rw [hk1]; simp
    exact call_meets F.slot_tuple_mul ⟨_, ho, rfl⟩ F.entry_tuple_mul (F.args_tuple_mul_2 _ _) (tuple_mul1 l its.toArray n dd sl k t c0 c1) ⟨ho, .ref l, H, I, rfl, q1 hk1⟩
  · have c1 : (its.toArray.isEmpty || k == 1) = false := by
      rw [hi, Bool.false_or]
      exact beq_eq_false_iff_ne.mpr hk1
    by_cases hk0 : k ≤ 0
    · have c2 : (decide (k ≤ 0) || its.toArray.isEmpty) = true := by rw [decide_eq_true hk0]; rfl
      refine call_meets F.slot_tuple_mul ⟨_, ho, rfl⟩ F.entry_tuple_mul (F.args_tuple_mul_2 _ _) (tuple_mul0 l its.toArray n dd sl k t c0 c1 c2) ⟨ho, ?_⟩
      have e : repF k xs = [] := by unfold repF; rw [show k.toNat = 0 by omega]; rfl
      have I1 := Inv.tupF (s := s) I (xs := []) (its := []) .nil (Nat.zero_le _)
      have q := q2 hk1 s.heap.objs.size { cls := .type "tuple", data := .seq (([] : List Value)).toArray } (I.hok.fresh (Nat.le_refl _)) rfl
      rw [e] at q
      exact ⟨.ref s.heap.objs.size, _, I1, rfl, q⟩
    · have hm : ((its.toArray.size : Nat) : Int) * k ≤ 1000000 := by
        rw [hsz0]
        have a1 : ((xs.length : Nat) : Int) * k ≤ 1000 * k := Int.mul_le_mul_of_nonneg_right (by omega) (by omega)
        omega
      have flen : (List.replicate k.toNat its).flatten.length ≤ sizeLine := by
        rw [PyProof.Rows.lm_len_rep_flat, hle, sizeLine_eq]
        have a1 : k.toNat * xs.length ≤ 1000 * 1000 := Nat.mul_le_mul (by omega) hz
        omega
      have c2 : (decide (k ≤ 0) || its.toArray.isEmpty) = false := by
        rw [hi, Bool.or_false]
        exact decide_eq_false (by omega)
      have c4 : Builtin.Tuple.tupleTooMany (((its.toArray.size : Nat) : Int) * k) = false := by
        unfold Builtin.Tuple.tupleTooMany
        rw [sizeLine_eq]
        exact decide_eq_false (by omega)
      refine call_meets F.slot_tuple_mul ⟨_, ho, rfl⟩ F.entry_tuple_mul (F.args_tuple_mul_2 _ _) (tuple_mulW l its.toArray n dd sl k t c0 c1 c2 (by omega) c4 (by rw [size_rep, List.size_toArray]; exact flen)) ⟨ho, ?_⟩
      rw [size_rep]
      have I1 := Inv.tupF (s := s) I (r.rep k.toNat) (by rw [PyProof.Rows.lm_len_rep_flat, sizeLine_eq]; have a1 : k.toNat * xs.length ≤ 1000 * 1000 := Nat.mul_le_mul (by omega) hz; omega)
      exact ⟨.ref s.heap.objs.size, _, I1, rfl, q2 hk1 _ _ (I.hok.fresh (Nat.le_refl _)) rfl⟩
def rMulS (K : PySem.W.Frag) : R2 := fun x y H Q => rMulA x y H Q ∨ rMulT K x y H Q ∨ rRep x y H Q
theorem op_mulS : OpR X (binaryOp .Mult) (rMulS X.K) := op_mulA.or (op_mulT.or op_rep)
def dMulS : D → D → Option (Kd × D)
  | .int i, .int j => if mulOk i j then some (.new, .int (i * j)) else none
  | .tup xs, .int k => if decide (-1000 ≤ k) && decide (k ≤ 1000) && decide (xs.length ≤ 1000) && noLs xs && !xs.isEmpty then some (.new, .tup (repF k xs)) else none
  | .lst xs, .int k => if decide (-1000 ≤ k) && decide (k ≤ 1000) && decide (xs.length ≤ 1000) && noLs xs then some (.new, .lst (repF k xs)) else none
  | _, _ => none
theorem Reps.rep {H : Hp} {xs : List D} {vs : List V} (r : Reps H xs vs []) : ∀ n : Nat, Reps H (List.replicate n xs).flatten (List.replicate n vs).flatten []
  | 0 => .nil
  | n + 1 => by
    rw [List.replicate_succ, List.replicate_succ, List.flatten_cons, List.flatten_cons]
    have := r.append (Reps.rep r n)
    simpa using this
theorem v_mulS (K : PySem.W.Frag) : V2 (rMulS K) dMulS := by
  intro H x y v w as bs k d Q r1 r2 hf hq
  cases r2 with
  | int j =>
    cases r1 with
    | int i => exact .inl (v_mul H (.int i) (.int j) (.int i) (.int j) [] [] k d Q (.int i) (.int j) hf hq)
    | @tup a o vs xs as' ha hd s =>
      simp only [dMulS] at hf
      split at hf
      · rename_i hz
        cases hf
        simp only [Bool.and_eq_true, decide_eq_true_eq] at hz
        obtain ⟨⟨⟨⟨h1, h2⟩, h3⟩, h4⟩, h5⟩ := hz
        have e := s.noL h4
        subst e
        refine .inr (.inl ⟨a, j, vs, rfl, rfl, SqT.frz ha, fun z => ?_, h1, h2, by rw [← s.length]; exact h3, fun hk => ?_, fun hk p o' hp hd' => ?_⟩)
        · have := s.length; rw [z] at this; simp at this; subst this; simp at h5
        · have e : repF j xs = xs := by unfold repF; rw [hk]; simp
          rw [e] at hq
          exact hq _ H [] (Ex.refl H) (.tup ha hd s) KdOk.nil
        · exact hq _ _ [] (Ex.new hp) (.tup upd_same hd' ((Reps.rep s j.toNat).mono (Ex.new hp))) KdOk.nil
      · cases hf
    | @lst a vs xs as' ha s =>
      simp only [dMulS] at hf
      split at hf
      · rename_i hz
        cases hf
        simp only [Bool.and_eq_true, decide_eq_true_eq] at hz
        obtain ⟨⟨⟨h1, h2⟩, h3⟩, h4⟩ := hz
        have e := s.noL h4
        subst e
        have hl := s.length
        refine .inr (.inr ⟨a, j, vs, rfl, rfl, ha, by omega, by omega, ?_, fun p hp => ?_⟩)
        · rw [sizeLine_eq]
          have : vs.length * j.toNat ≤ 1000 * 1000 := Nat.mul_le_mul (by omega) (by omega)
          omega
        · exact hq _ _ [p] (Ex.new hp) (.lst upd_same ((Reps.rep s j.toNat).mono (Ex.new hp))) (KdOk.mk1 ⟨by simp, fun c hc => by simp at hc; subst hc; exact hp⟩)
      · cases hf
    | _ => simp [dMulS] at hf
  | _ => cases x <;> simp [dMulS] at hf
end
end CB

namespace CB
open PySem L2 PySem.Spec PyProof.Rows
variable [CT]
/-! ### min, max of a list or a tuple of ints; max(.., default=0) -/
omit [CT] in
theorem reads_ints {h : Heap} : ∀ {ns : List Int} {us : List Value}, L2.Vals (ns.map V.int) us → ∃ as, ReadsAll h us (ns.map PyData.int) as
  | [], us, r => by rw [List.map_nil] at r; cases r; exact ⟨[], .nil⟩
  | n :: ns, us, r => by
    rw [List.map_cons] at r
    cases r with
    | cons a b =>
      obtain ⟨t, e⟩ := a
      subst e
      obtain ⟨as, h1⟩ := reads_ints b
      exact ⟨[] ++ as, .cons (.int n t) h1⟩
omit [CT] in
theorem alike_intsA (ns : List Int) : PySem.W.AlikeAll (ns.map PyData.int) := ⟨fun x hx y hy => by
  obtain ⟨i, _, rfl⟩ := List.mem_map.mp hx
  obtain ⟨j, _, rfl⟩ := List.mem_map.mp hy
  rfl, fun x hx => by
  obtain ⟨i, _, rfl⟩ := List.mem_map.mp hx
  exact fun z => nomatch z⟩
def rMM (K : PySem.W.Frag) (f : Int → List Int → Int) : List V → Hp → VK → Prop := fun vs H Q => ∃ (a : Addr) (n : Int) (ns : List Int), vs = [V.ref a] ∧ (SqL K H a ((n :: ns).map V.int) ∨ SqT K H a ((n :: ns).map V.int)) ∧ Q (.int (f n ns)) H
section
variable {X : Cx}
omit [CT] in
theorem depI (ns : List Int) : PyData.depthAll (ns.map PyData.int) = 0 := PySem.W.depth_ints ns
theorem cr_minA (hc : X.calm = true) (hu : X.A.units + 1 < cLine) : CallR X (.builtin "min") (rMM X.K fun n ns => ns.foldl min n) := by
  intro pins s σ H vs us Q I r h
  obtain ⟨a, n, ns, rfl, hs, q⟩ := h
  rw [Vals.ref1 r]
  rcases hs with hs | hs
  · obtain ⟨its, rv, hl, _⟩ := I.list hs
    obtain ⟨as, hr⟩ := reads_ints (h := s.heap) rv
    refine PySem.W.min_list_data (x := .int n) (xs := ns.map .int) (I.ok.hd hc) hl.isList (by simpa using hr) (alike_intsA (n :: ns)) (by have := depI (n :: ns); simp only [List.map_cons] at this; rw [this]; exact hu) fun i v h' tk bs hv hrd hk => ?_
    rw [PySem.W.minD_ints] at hrd
    cases hrd
    exact ⟨.int _, H, I.kept hk, ⟨_, rfl⟩, q⟩
  · obtain ⟨its, rv, hl, _⟩ := I.tuple hs
    obtain ⟨as, hr⟩ := reads_ints (h := s.heap) rv
    refine PySem.W.min_tuple_data (x := .int n) (xs := ns.map .int) (I.ok.hd hc) hl (by simpa using hr) (alike_intsA (n :: ns)) (by have := depI (n :: ns); simp only [List.map_cons] at this; rw [this]; exact hu) fun i v h' tk bs hv hrd hk => ?_
    rw [PySem.W.minD_ints] at hrd
    cases hrd
    exact ⟨.int _, H, I.kept hk, ⟨_, rfl⟩, q⟩
theorem cr_maxA (hc : X.calm = true) (hu : X.A.units + 1 < cLine) : CallR X (.builtin "max") (rMM X.K fun n ns => ns.foldl max n) := by
  intro pins s σ H vs us Q I r h
  obtain ⟨a, n, ns, rfl, hs, q⟩ := h
  rw [Vals.ref1 r]
  rcases hs with hs | hs
  · obtain ⟨its, rv, hl, _⟩ := I.list hs
    obtain ⟨as, hr⟩ := reads_ints (h := s.heap) rv
    refine PySem.W.max_list_data (x := .int n) (xs := ns.map .int) (I.ok.hd hc) hl.isList (by simpa using hr) (alike_intsA (n :: ns)) (by have := depI (n :: ns); simp only [List.map_cons] at this; rw [this]; exact hu) fun i v h' tk bs hv hrd hk => ?_
    rw [PySem.W.maxD_ints] at hrd
    cases hrd
    exact ⟨.int _, H, I.kept hk, ⟨_, rfl⟩, q⟩
  · obtain ⟨its, rv, hl, _⟩ := I.tuple hs
    obtain ⟨as, hr⟩ := reads_ints (h := s.heap) rv
    refine PySem.W.max_tuple_data (x := .int n) (xs := ns.map .int) (I.ok.hd hc) hl (by simpa using hr) (alike_intsA (n :: ns)) (by have := depI (n :: ns); simp only [List.map_cons] at this; rw [this]; exact hu) fun i v h' tk bs hv hrd hk => ?_
    rw [PySem.W.maxD_ints] at hrd
    cases hrd
    exact ⟨.int _, H, I.kept hk, ⟨_, rfl⟩, q⟩
def rMaxDf (K : PySem.W.Frag) (c : Int) : List V → Hp → VK → Prop := fun vs H Q => ∃ (a : Addr) (ns : List Int), vs = [V.ref a] ∧ SqL K H a (ns.map V.int) ∧ Q (.int (match ns with | [] => c | n :: ns => ns.foldl max n)) H
theorem cr_maxDf (c : Int) (hc : X.calm = true) (hu : X.A.units + 1 < cLine) : CallRK X (.builtin "max") [Str.ofString "default"] (fun vs zs H Q => zs = [.int c] ∧ rMaxDf X.K c vs H Q) := by
  intro pins s σ H vs zs us ws Q I r rz h
  obtain ⟨rfl, a, ns, rfl, hs, q⟩ := h
  obtain ⟨u, rfl, t, rfl⟩ := vals1 rz
  rw [Vals.ref1 r]
  obtain ⟨its, rv, hl, _⟩ := I.list hs
  obtain ⟨as, hr⟩ := reads_ints (h := s.heap) rv
  refine PySem.W.max_list_default (xs := ns.map .int) (d := .int c t) (I.ok.hd hc) hl.isList (by simpa using hr) (alike_intsA ns) (by rw [depI]; exact hu) (fun e h' tk hk => ?_) fun y ys i v h' tk bs e hv hrd hk => ?_
  · cases ns with
    | nil => exact ⟨.int _, H, I.kept hk, ⟨_, rfl⟩, q⟩
    | cons n ns => cases e
  · cases ns with
    | nil => cases e
    | cons n ns =>
      cases e
      rw [PySem.W.maxD_ints] at hrd
      cases hrd
      exact ⟨.int _, H, I.kept hk, ⟨_, rfl⟩, q⟩
end
def dMM (f : Int → List Int → Int) : List D → Option (Kd × D)
  | [.lst xs] => match toInts xs with
    | some (n :: ns) => some (.new, .int (f n ns))
    | _ => none
  | [.tup xs] => match toInts xs with
    | some (n :: ns) => some (.new, .int (f n ns))
    | _ => none
  | _ => none
theorem v_MM (K : PySem.W.Frag) (f : Int → List Int → Int) : VN (rMM K f) (dMM f) := by
  intro H ds vs as k d Q rs e q
  match ds, e with
  | [.lst xs], e =>
    simp only [dMM] at e
    cases hi : toInts xs with
    | none => rw [hi] at e; cases e
    | some ns =>
      rw [hi] at e
      cases ns with
      | nil => cases e
      | cons n ns =>
        cases e
        obtain ⟨v, ev, rv⟩ := rs.one
        subst ev
        have e2 := toInts_eq hi
        subst e2
        cases rv with
        | @lst a vs _ as' ha s =>
          obtain ⟨e3, _⟩ := s.ints
          subst e3
          exact ⟨a, n, ns, rfl, .inl (SqL.of ha), q _ H [] (Ex.refl H) (.int _) .nil⟩
  | [.tup xs], e =>
    simp only [dMM] at e
    cases hi : toInts xs with
    | none => rw [hi] at e; cases e
    | some ns =>
      rw [hi] at e
      cases ns with
      | nil => cases e
      | cons n ns =>
        cases e
        obtain ⟨v, ev, rv⟩ := rs.one
        subst ev
        have e2 := toInts_eq hi
        subst e2
        cases rv with
        | @tup a o vs _ as' ha hd s =>
          obtain ⟨e3, _⟩ := s.ints
          subst e3
          exact ⟨a, n, ns, rfl, .inr (SqT.frz ha), q _ H [] (Ex.refl H) (.int _) .nil⟩
def minI (n : Int) (ns : List Int) : Int := ns.foldl min n
def maxI (n : Int) (ns : List Int) : Int := ns.foldl max n
def maxDf (c : Int) : List Int → Int
  | [] => c
  | n :: ns => maxI n ns
def dMaxDf (c : Int) : List D → Option (Kd × D)
  | [.lst xs] => match toInts xs with
    | some ns => some (.new, .int (maxDf c ns))
    | none => none
  | _ => none
theorem v_maxDf (K : PySem.W.Frag) (c : Int) : VN (rMaxDf K c) (dMaxDf c) := by
  intro H ds vs as k d Q rs e q
  match ds, e with
  | [.lst xs], e =>
    simp only [dMaxDf] at e
    cases hi : toInts xs with
    | none => rw [hi] at e; cases e
    | some ns =>
      rw [hi] at e
      cases e
      obtain ⟨v, ev, rv⟩ := rs.one
      subst ev
      have e2 := toInts_eq hi
      subst e2
      cases rv with
      | @lst a vs _ as' ha s =>
        obtain ⟨e3, _⟩ := s.ints
        subst e3
        refine ⟨a, ns, rfl, SqL.of ha, ?_⟩
        have := q (.int (maxDf c ns)) H [] (Ex.refl H) (.int _) .nil
        cases ns <;> exact this
section
variable {X : Cx} {E : XK}
theorem snd_maxDf {c : Int} {e : Expr} {es : List Expr} {ps : List P} {p pos kp kpos : Pos} {j : Nat} (hcm : X.calm = true) (hu : X.A.units + 1 < cLine) (hg : Gl X "max") (hm : X.mg "max" = none) (h : SndA X E (e :: es) ps)
    (he : backTo pos (starEach (e :: es) X.env) = (false, eval e X.env) :: backTo pos (starEach es X.env) := by rfl) (hpl : (backTo pos (starEach (e :: es) X.env)).any (·.1) = false := by rfl)
    (hall : (backToKw pos (keywordEach [⟨some "default", .Constant (.int c) j kp, kpos⟩] X.env)).all (·.1.isSome) = true := by rfl) (hnone : (backToKw pos (keywordEach [⟨some "default", .Constant (.int c) j kp, kpos⟩] X.env)).any (·.1.isNone) = false := by rfl) (hks : (backToKw pos (keywordEach [⟨some "default", .Constant (.int c) j kp, kpos⟩] X.env)).filterMap (·.1) = [("default" : Str)] := by rfl) :
    SndP X E (.Call (.Name "max" p) (e :: es) [⟨some "default", .Constant (.int c) j kp, kpos⟩] pos) (opN (dMaxDf c) ps) :=
  snd_bk (cr_maxDf c hcm hu) (v_maxDf _ c) pe_int (fun _ _ _ q => q) hg hm bt_max h (by decide) (by decide) he hpl hall hnone hks
end
end CB

namespace CB
open PySem L2 PySem.Spec PyProof.Rows
variable [CT]
/-! ### zip(tuple, list) -/
abbrev zmH1 (h : Heap) (l1 : Addr) : Heap := h.push { cls := .type "tuple_iterator", data := .fields #[.ref l1, .int 0 0] }
abbrev zmH2 (h : Heap) (l1 l2 : Addr) : Heap := (zmH1 h l1).push { cls := .type "list_iterator", data := .fields #[.ref l2, .int 0 0] }
abbrev zmH3 (h : Heap) (l1 l2 : Addr) : Heap := (zmH2 h l1 l2).push { cls := .type "tuple", data := .seq #[.ref h.objs.size, .ref (zmH1 h l1).objs.size] }
abbrev zmH4 (h : Heap) (l1 l2 : Addr) : Heap := (zmH3 h l1 l2).push { cls := .type "tuple", data := .seq #[.none, .none] }
abbrev zmH5 (h : Heap) (l1 l2 : Addr) : Heap := (zmH4 h l1 l2).push { cls := .type "zip", data := .fields #[.none, .bool false, .bool false, .ref (zmH2 h l1 l2).objs.size, .ref (zmH3 h l1 l2).objs.size] }
omit [CT] in
theorem meets_zipM (l1 l2 : Addr) (xs ys : Array Value) :
    Meets (Builtin.«zip.__new__» ⟨[.type "zip", .ref l1, .ref l2], []⟩) (fun _ R s => s.heap.IsTuple l1 xs ∧ s.heap.IsList l2 ys ∧ R (.ok (.ret (.ref (zmH4 s.heap l1 l2).objs.size))) { s with heap := zmH5 s.heap l1 l2 }) :=
  .of_wp fun prog w A R s h => by
    obtain ⟨hp, g, d, tk, os⟩ := s; obtain ⟨hl1, hl2, h⟩ := h
    have hsub := sub_zip
    have hL1 : Heap.IsTuple (Shared.heap ⟨hp, g, d, tk, os⟩) l1 xs := hl1
    have hL2 : Heap.IsList (Shared.heap ⟨hp.push { cls := .type "tuple_iterator", data := .fields #[.ref l1, .int 0 0] }, g, d, tk, os⟩) l2 ys := Heap.IsList.push hl2 _
    wp_walk using wpAny_pyIter_tuple hL1, wpAny_pyIter_list hL2
    exact ⟨_, rfl, h⟩
section
variable {prog : Program} {w : World} {A : Around} {E : Value → Shared → Prop} {s : Shared}
omit [CT] in
theorem call_zipM {l1 l2 : Addr} {xs ys : Array Value} {Q : Value → Shared → Prop} (hl1 : s.heap.IsTuple l1 xs) (hl2 : s.heap.IsList l2 ys)
    (h : ∀ h', IsZip h' (s.heap.objs.size + 4) (s.heap.objs.size + 2) (s.heap.objs.size + 3) .none → IsTupOf2 h' (s.heap.objs.size + 2) (.ref s.heap.objs.size) (.ref (s.heap.objs.size + 1)) →
      IsTupOf2 h' (s.heap.objs.size + 3) .none .none → h'.IsTupleIter s.heap.objs.size l1 0 → h'.IsListIter (s.heap.objs.size + 1) l2 0 → (∀ c o, s.heap.get? c = some o → h'.get? c = some o) → Q (.ref (s.heap.objs.size + 4)) { s with heap := h' }) :
    wpAny (model prog w) A (call (.type "zip") [.ref l1, .ref l2]) Q E s := by
  refine callType_new F.called_zip (by decide) (F.typeCall_zip_2 _ _) (F.newCall_zip_2 _ _) (fun obj => F.args_object_init_3 obj _ _) F.entry_zip_new (meets_zipM l1 l2 xs ys) ⟨hl1, hl2, ?_⟩
  have z1 : (zmH1 s.heap l1).objs.size = s.heap.objs.size + 1 := Heap.size_push ..
  have z2 : (zmH2 s.heap l1 l2).objs.size = s.heap.objs.size + 2 := by rw [Heap.size_push, z1]
  have z3 : (zmH3 s.heap l1 l2).objs.size = s.heap.objs.size + 3 := by rw [Heap.size_push, z2]
  have z4 : (zmH4 s.heap l1 l2).objs.size = s.heap.objs.size + 4 := by rw [Heap.size_push, z3]
  have up : ∀ {h : Heap} {b : Addr} {o q : Obj}, h.get? b = some o → (h.push q).get? b = some o := fun e => Heap.get?_push_of_some _ e
  have g5 : (zmH5 s.heap l1 l2).get? (zmH4 s.heap l1 l2).objs.size = some _ := Heap.get?_push_size _ rfl
  have g4 : (zmH5 s.heap l1 l2).get? (zmH3 s.heap l1 l2).objs.size = some _ := up (Heap.get?_push_size _ rfl)
  have g3 : (zmH5 s.heap l1 l2).get? (zmH2 s.heap l1 l2).objs.size = some _ := up (up (Heap.get?_push_size _ rfl))
  have g2 : (zmH5 s.heap l1 l2).get? (zmH1 s.heap l1).objs.size = some _ := up (up (up (Heap.get?_push_size _ rfl)))
  have g1 : (zmH5 s.heap l1 l2).get? s.heap.objs.size = some _ := up (up (up (up (Heap.get?_push_size _ rfl))))
  show _ ∧ _
  rw [z2, z3, z4] at g5
  rw [z1, z2] at g3
  rw [z3] at g4
  rw [z1] at g2
  rw [z4]
  exact ⟨⟨_, g5, rfl⟩, h _ g5 g3 g4 ⟨_, g1, rfl, rfl⟩ ⟨_, g2, rfl, rfl⟩ fun c o x => up (up (up (up (up x))))⟩
end
def ItzM (K : PySem.W.Frag) (a b : Addr) (xs ys : List V) : It :=
  ⟨fun i H => SqT K H a xs ∧ SqL K H b ys ∧ i < xs.length ∧ i < ys.length, fun i H v H' => ∃ T x y, v = .ref T ∧ H T = none ∧ H' = upd H T (.tup [x, y]) ∧ xs[i]? = some x ∧ ys[i]? = some y,
    fun i H => SqT K H a xs ∧ SqL K H b ys ∧ (xs.length ≤ i ∨ ys.length ≤ i)⟩
omit [CT] in
theorem neA {x y : Nat} (h : x ≠ y) : (show Addr from x) ≠ y := h
omit [CT] in
theorem nmA {x y z : Nat} (h : x ≠ y) (h' : x ≠ z) : (show Addr from x) ∉ ([y, z] : List Addr) := fun m => by
  rcases List.mem_cons.mp m with e | m
  · exact h e
  · rcases List.mem_cons.mp m with e | m
    · exact h' e
    · exact nomatch m
omit [CT] in
theorem sepM {I a b : Nat} (h1 : a < I) (h2 : b < I) : ZipSep2 (I + 4) (I + 2) (I + 3) I (I + 1) [I, a] [I + 1, b] :=
  ⟨neA (by omega), neA (by omega), neA (by omega), neA (by omega), List.mem_cons_self, nmA (by omega) (by omega), nmA (by omega) (by omega), neA (by omega), List.mem_cons_self, nmA (by omega) (by omega), nmA (by omega) (by omega), nmA (by omega) (by omega), nmA (by omega) (by omega)⟩
theorem turn_zipM {P : Program} {w : World} {K : PySem.W.Frag} {elts : List Expr} {kk : Nat} {tpos : Pos} {a b I0 : Addr} {xs ys : List V} (ha : a < I0) (hb : b < I0) :
    Turn P w K (.Tuple elts kk tpos) (ItzM K a b xs ys) [I0 + 4, I0 + 2, I0 + 3, I0, I0 + 1] (I0 + 4) (fun i h => IsZip h (I0 + 4) (I0 + 2) (I0 + 3) .none ∧ IsTupOf2 h (I0 + 2) (.ref I0) (.ref (I0 + 1)) ∧ (∃ x y, IsTupOf2 h (I0 + 3) x y) ∧ h.IsTupleIter I0 a i ∧ h.IsListIter (I0 + 1) b i ∧ i ≤ xs.length ∧ i ≤ ys.length) where
  mem := by simp
  obj := fun i h st c hc => by
    obtain ⟨hz, hTI, ⟨x, y, hTO⟩, ⟨o1, e1, _, d1⟩, ⟨o2, e2, _, d2⟩, _⟩ := st
    have e' : c = I0 + 4 ∨ c = I0 + 2 ∨ c = I0 + 3 ∨ c = I0 ∨ c = I0 + 1 := by simpa using hc
    rcases e' with q | q | q | q | q
    · rw [q]; exact ⟨_, hz, fun v q => nomatch q⟩
    · rw [q]; exact ⟨_, hTI, fun v q => nomatch q⟩
    · rw [q]; exact ⟨_, hTO, fun v q => nomatch q⟩
    · rw [q]; exact ⟨o1, e1, fun v q => by rw [d1] at q; cases q⟩
    · rw [q]; exact ⟨o2, e2, fun v q => by rw [d2] at q; cases q⟩
  keep := fun i h h' st k => by
    obtain ⟨hz, hTI, ⟨x, y, hTO⟩, h1, h2, l1, l2⟩ := st
    exact ⟨k _ (by simp) _ hz, k _ (by simp) _ hTI, ⟨x, y, k _ (by simp) _ hTO⟩, h1.at fun o q => k _ (by simp) o q, h2.at fun o q => k _ (by simp) o q, l1, l2⟩
  item := by
    intro X hP hw hK hc i pins s σ H E I hf st hg
    subst hP hw hK
    obtain ⟨hz, hTI, ⟨x0, y0, hTO⟩, h1, h2, _⟩ := st
    obtain ⟨hqx, hqy, hlx, hly⟩ := hg
    obtain ⟨its, rv, p, _⟩ := I.tuple hqx
    obtain ⟨its2, rv2, p2, _⟩ := I.list hqy
    have l1 := rv.length
    have l2 := rv2.length
    have hh : X.A.in1.handled = none := I.ok.hd hc
    have hzl : I0 + 4 < s.heap.objs.size := Heap.lt_size hz
    refine wpAny_pyNext_zipD2_item (sepM ha hb) (Draws.tuple hh I0 a (Nat.ne_of_lt ha) its.toArray) (Draws.list hh (I0 + 1) b (Nat.ne_of_lt (Nat.lt_succ_of_lt hb)) its2.toArray) hz hTI hTO ⟨h1, p⟩ ⟨h2, p2.isList⟩ (by rw [List.size_toArray]; omega) (by rw [List.size_toArray]; omega) fun u u2 h' tk e1 e2 z' TO' h1' h2' hT hsz hk => ?_
    have hx : xs[i]? = some (xs[i]) := List.getElem?_eq_getElem hlx
    have hy : ys[i]? = some (ys[i]) := List.getElem?_eq_getElem hly
    obtain ⟨u', hu, ru⟩ := rv.get hx
    obtain ⟨u2', hu2, ru2⟩ := rv2.get hy
    have e1' : its.toArray[i]? = some u := e1
    have e2' : its2.toArray[i]? = some u2 := e2
    rw [List.getElem?_toArray, hu] at e1'
    rw [List.getElem?_toArray, hu2] at e2'
    cases e1'
    cases e2'
    refine ⟨_, rfl, wpAny_letOwnedTupleGo_zip (s := { s with heap := h', toks := tk }) z' fun h'' z'' sb => ?_⟩
    have hT2 : h''.get? s.heap.objs.size = some { cls := .type "tuple", data := .seq #[u, u2] } := (sb.2 _ (Nat.ne_of_gt hzl)).trans hT
    have new : ObjOk X.prog X.w (upd H s.heap.objs.size (.tup [xs[i], ys[i]])) h'' s.heap.objs.size (.tup [xs[i], ys[i]]) :=
      ⟨by show 2 ≤ sizeLine; decide, [u, u2], .cons ru (.cons ru2 .nil), ⟨_, hT2, rfl, _, rfl⟩⟩
    have I1 : L2.Inv X pins σ (upd H s.heap.objs.size (.tup [xs[i], ys[i]])) { s with heap := h'', toks := tk } :=
      I.turnedNew (t' := tk) (ch := [I0 + 4, I0 + 2, I0 + 3, I0, I0 + 1]) (fun c o hb q => (sb.2 c (fun q' => hb (by simp [q']))).trans (hk c o (fun q' => hb (by simp [q'])) (fun q' => hb (by simp [q'])) (fun q' => hb (by simp [q'])) (fun q' => hb (by simp [q'])) q)) hf (Nat.le_refl _) new
    refine ⟨.ref s.heap.objs.size, _, I1, rfl, ⟨_, _, _, rfl, I.hok.fresh (Nat.le_refl _), rfl, hx, hy⟩, ⟨z'', ?_, ⟨u, u2, ?_⟩, ?_, ?_, hlx, hly⟩, fun c hcm => ?_⟩
    · exact (sb.2 _ (sepM ha hb).TIz).trans (hk _ _ (sepM ha hb).TIz (sepM ha hb).TITO (sepM ha hb).TIi1 (sepM ha hb).TIi2 hTI)
    · exact (sb.2 _ (sepM ha hb).TOz).trans TO'
    · exact h1'.1.at fun o q => (sb.2 _ (sepM ha hb).zi1.symm).trans q
    · exact h2'.1.at fun o q => (sb.2 _ (sepM ha hb).zi2.symm).trans q
    · have hlt : c < s.heap.objs.size := by
        have e' : c = I0 + 4 ∨ c = I0 + 2 ∨ c = I0 + 3 ∨ c = I0 ∨ c = I0 + 1 := by simpa using hcm
        rcases e' with q | q | q | q | q
        · rw [q]; exact hzl
        · rw [q]; exact Heap.lt_size hTI
        · rw [q]; exact Heap.lt_size hTO
        · rw [q]; obtain ⟨_, e1, _⟩ := h1; exact Heap.lt_size e1
        · rw [q]; obtain ⟨_, e2, _⟩ := h2; exact Heap.lt_size e2
      rw [upd_ne (Nat.ne_of_lt hlt)]
      exact (hf c hcm).1
  done := by
    intro X hP hw hK hc i pins s σ H E I hf st hg
    subst hP hw hK
    obtain ⟨hz, hTI, ⟨x0, y0, hTO⟩, h1, h2, lx, ly⟩ := st
    obtain ⟨hqx, hqy, hend⟩ := hg
    obtain ⟨its, rv, p, _⟩ := I.tuple hqx
    obtain ⟨its2, rv2, p2, _⟩ := I.list hqy
    have l1 := rv.length
    have l2 := rv2.length
    have hh : X.A.in1.handled = none := I.ok.hd hc
    exact wpAny_pyNext_zipD2_end (sepM ha hb) (Draws.tuple hh I0 a (Nat.ne_of_lt ha) its.toArray) (Draws.list hh (I0 + 1) b (Nat.ne_of_lt (Nat.lt_succ_of_lt hb)) its2.toArray) hz hTI hTO ⟨h1, p⟩ ⟨h2, p2.isList⟩ (by rw [List.size_toArray]; omega) (by rw [List.size_toArray]; omega) (by rw [List.size_toArray, List.size_toArray]; omega)
      fun h' tk hk => ⟨rfl, I.turnedL (t' := tk) (ch := [I0 + 4, I0 + 2, I0 + 3, I0, I0 + 1]) (fun c o hb q => hk c o (fun q' => hb (by simp [q'])) (fun q' => hb (by simp [q'])) (fun q' => hb (by simp [q'])) (fun q' => hb (by simp [q'])) q) hf⟩
  self := fun A i s Q E st h => wpAny_pyIter_zip st.1 h
def iZipM (K : PySem.W.Frag) (ta : TA) : TI := fun σ H R => ta σ H fun vs H1 => ∃ a b xs ys, vs = [.ref a, .ref b] ∧ SqT K H1 a xs ∧ SqL K H1 b ys ∧ R (ItzM K a b xs ys) H1
section
variable {X : Cx} {E : XK}
theorem pi_zipM {e e2 : Expr} {ta : TA} {p pos tpos : Pos} {elts : List Expr} {kk : Nat} (hg : Gl X "zip") (hm : X.mg "zip" = none) (ha : PA X [e, e2] ta)
    (hs : starEach [e, e2] X.env = (false, eval e X.env) :: starEach [e2] X.env := by rfl) (hpl : (backTo pos (starEach [e2] X.env)).any (·.1) = false := by rfl) :
    PI X (.Tuple elts kk tpos) (.Call (.Name "zip" p) [e, e2] [] pos) (iZipM X.K ta) := by
  refine ⟨fun pins s σ H R I h => ?_⟩
  refine Call_ (ld_blt I hg hm PyProof.Rows.boot_zip (PyProof.Rows.callWith_type1 (thn (ha.run pos pins s σ H _ I h) fun us s1 ⟨vs, H1, I1, r1, q1⟩ => ?_) hs hpl))
  obtain ⟨a, b, xs, ys, ex, hqx, hqy, q⟩ := q1
  subst ex
  cases r1 with
  | cons r rr =>
    cases rr with
    | cons r' rr =>
      cases rr
      cases r
      cases r'
      obtain ⟨its, rv, p1, _⟩ := I1.tuple hqx
      obtain ⟨its2, rv2, p2, _⟩ := I1.list hqy
      obtain ⟨o1, ho1, _⟩ := id p1
      refine call_zipM (show s1.heap.IsTuple a its.toArray from p1) p2.isList fun h' hz hTI hTO h1 h2 hk => wpAny_pyIter_zip hz ?_
      have I2 : L2.Inv X pins σ H1 { s1 with heap := h' } := I1.kept (t' := s1.toks) hk
      refine ⟨s1.heap.objs.size + 4, [s1.heap.objs.size + 4, s1.heap.objs.size + 2, s1.heap.objs.size + 3, s1.heap.objs.size, s1.heap.objs.size + 1], _, _, H1, rfl, I2, turn_zipM (xs := xs) (ys := ys) (Heap.lt_size ho1) p2.lt, ⟨hz, hTI, ⟨_, _, hTO⟩, h1, h2, Nat.zero_le _, Nat.zero_le _⟩, fun c hcm => ?_, q⟩
      have hle : s1.heap.objs.size ≤ c := by
        have e' : c = s1.heap.objs.size + 4 ∨ c = s1.heap.objs.size + 2 ∨ c = s1.heap.objs.size + 3 ∨ c = s1.heap.objs.size ∨ c = s1.heap.objs.size + 1 := by simpa using hcm
        rcases e' with z | z | z | z | z
        · rw [z]; exact Nat.le_add_right _ _
        · rw [z]; exact Nat.le_add_right _ _
        · rw [z]; exact Nat.le_add_right _ _
        · rw [z]; exact Nat.le_refl _
        · rw [z]; exact Nat.le_add_right _ _
      exact I1.fpOk hle (I1.hok.fresh hle)
def izipA (p q : P) : I := fun env => match args [p, q] env with
  | .ok g [.tup xs, .lst ys] => .ok g ((xs.zip ys).map fun z => .tp0 [z.1, z.2])
  | _ => izip p q env
theorem PI.or {tg iter : Expr} {t u : TI} (h : PI X tg iter t) (h' : PI X tg iter u) : PI X tg iter (fun σ H R => t σ H R ∨ u σ H R) :=
  ⟨fun pins s σ H R I q => q.elim (h.run pins s σ H R I) (h'.run pins s σ H R I)⟩
theorem sndi_zipA {e e2 : Expr} {p q : P} {p1 pos tpos : Pos} {elts : List Expr} {kk : Nat} (h : SndA X E [e, e2] [p, q]) (hg : Gl X "zip") (hm : X.mg "zip" = none)
    (hs : starEach [e, e2] X.env = (false, eval e X.env) :: starEach [e2] X.env := by rfl) (hpl : (backTo pos (starEach [e2] X.env)).any (·.1) = false := by rfl) : SndI X E (.Tuple elts kk tpos) (.Call (.Name "zip" p1) [e, e2] [] pos) (izipA p q) := by
  obtain ⟨wi, i1, i2⟩ := sndi_zip (tpos := tpos) (elts := elts) (kk := kk) (p1 := p1) (pos := pos) h hg hm hs hpl
  obtain ⟨t, h1, h2⟩ := h
  refine ⟨_, PI.or i1 (pi_zipM hg hm h1 hs hpl), fun S env σ H R o w => ?_⟩
  unfold izipA at w
  split at w
  · rename_i g xs ys hp
    refine .inr (h2 S env σ H _ o ?_)
    rw [hp]
    intro us H1 as e1 r1 m1 n1
    obtain ⟨v, u, bs, cs, q1, q2, q3, q4⟩ := r1.two
    subst q1 q4
    cases q2 with
    | @tup a oa vs _ as' ha hda s =>
      cases q3 with
      | @lst b ws _ bs' hb s' =>
        refine ⟨a, b, vs, ws, rfl, SqT.frz ha, SqL.of hb, w _ H1 (fun c o => (c = a ∧ o = .frz oa (.tup vs)) ∨ (c = b ∧ o = .lst ws)) _ _ e1 (serves_zip (K := X.K) s.length s'.length (fun i H x y hf hx hy => ⟨SqT.frz (hf a _ (.inl ⟨rfl, rfl⟩)), SqL.of (hf b _ (.inr ⟨rfl, rfl⟩)), (List.getElem?_eq_some_iff.mp hx).1, (List.getElem?_eq_some_iff.mp hy).1⟩)
          (fun i H v H' hf z => z) (fun i H hf hl => ⟨SqT.frz (hf a _ (.inl ⟨rfl, rfl⟩)), SqL.of (hf b _ (.inr ⟨rfl, rfl⟩)), hl⟩))
          (fun c o z => by rcases z with ⟨z1, z2⟩ | ⟨z1, z2⟩ <;> subst z1 z2 <;> assumption) (reps_pr s s' (fun c hc => m1 c (List.mem_append_left _ hc)) fun c hc => m1 c (List.mem_append_right _ (List.mem_cons_of_mem _ hc))) (fun z c o hc => ?_) fun c o hc => ?_⟩
        · rcases hc with ⟨_, z2⟩ | ⟨z1, _⟩
          · subst z2; exact .inr rfl
          · subst z1; exact .inl ((n1 z).2 _ (List.mem_append_right _ List.mem_cons_self))
        · rcases hc with ⟨_, z2⟩ | ⟨z1, _⟩
          · subst z2; exact .inr (.inr rfl)
          · subst z1; exact (m1 _ (List.mem_append_right _ List.mem_cons_self)).imp id .inl
  · exact .inl (i2 S env σ H R o w)
end
end CB

namespace CB
open PySem L2 PySem.Spec PyProof.Rows
variable [CT]
section
variable {X : Cx} {E : XK}
/-! ### a, b = a list or a tuple, shared -/
theorem PG.or {tg : Expr} {t u : TG} (h : PG X tg t) (h' : PG X tg u) : PG X tg (fun v σ H Q => t v σ H Q ∨ u v σ H Q) :=
  ⟨fun pins s σ H v w Q I r q => q.elim (h.run pins s σ H v w Q I r) (h'.run pins s σ H v w Q I r)⟩
def rowOf : D → Option (List D)
  | .tup ds => some ds
  | .lst ds => some ds
  | _ => none
def unpA (is : List Nat) (m : GE) : SM := fun env => match m env with
  | .ok o d e => match rowOf d with
    | some ds => if !o || noL d || noLs ds then match setAll e is ds with
        | some e' => .nx e'
        | none => .no
      else .no
    | none => .no
  | .ex x e => .ex x e
  | .no => .no
theorem snds_unpA {ts : List Expr} {is : List Nat} {kk : Nat} {tpos pos : Pos} {e : Expr} {m : GE} (hcm : X.calm = true) (h : SndE X E e m) (hgs : SndGs X ts is) (hs : swapsWithSole [.Tuple ts kk tpos] e pos.line X.env = pure false := by rfl) (hw : swappedStores [.Tuple ts kk tpos] e X.env = pure none := by rfl)
    (h1 : (assignEach [.Tuple ts kk tpos] X.env).map (·.2) = [assign (.Tuple ts kk tpos) X.env] := by rfl) (hn : (assignEach ts X.env).length = is.length := by rfl) (hst : (assignEach ts X.env).findIdx? (·.1) = none := by rfl) : SndS X E (.Assign [.Tuple ts kk tpos] e pos) (unpA is m) := by
  obtain ⟨t, a1, a2⟩ := h
  obtain ⟨gg, b1, b2⟩ := hgs
  refine ⟨_, ps_asg a1 (PG.or (pg_tup hcm b1 hn hst) (pg_unl hcm b1 hn hst)) hs hw h1, fun M N fx pin φ H env σ ts K g w => a2 M N fx pin φ H env σ ts _ g ?_⟩
  unfold unpA at w
  cases hm : m env with
  | no => rw [hm] at w; exact w
  | ex x e => rw [hm] at w; exact fun φ' H' c dx g' r => w φ' H' σ c dx g' r
  | ok o d e' =>
    rw [hm] at w
    intro φ1 H1 v g1
    simp only at w
    split at w
    · rename_i ds hrow
      split at w
      · rename_i hz
        cases hb : setAll e' is ds with
        | none => rw [hb] at w; exact w.elim
        | some e2 =>
          rw [hb] at w
          obtain ⟨as, r, mm, lab, _⟩ := g1.tmp ts.length (o, d, v) (by simp)
          have core : ∀ {vs : List V} {bs : List Addr}, Reps H1 ds vs bs → (∀ a ∈ bs, a ∈ as) → ∃ φ2, Good M N fx pin φ2 H1 e2 (setV σ is vs) ts := by
            intro vs bs rs hsub
            refine g1.drop1.bindAll rs (fun a ha => ⟨mm a (hsub a ha), ?_⟩) hb
            simp only [Bool.or_eq_true] at hz
            rcases hz with (hz | hz) | hz
            · have := lab a (hsub a ha)
              simp only [Bool.not_eq_true'] at hz
              have hz' : o = false := hz
              rw [hz'] at this
              exact this
            · have z := r.noL hz
              subst z
              exact absurd (hsub a ha) (fun h => nomatch h)
            · have z := rs.noL hz
              subst z
              exact nomatch ha
          have hl := setAll_len hb
          cases r with
          | @tup a ob vs xs _ ha hd s =>
            cases hrow
            obtain ⟨φ2, g2⟩ := core s (fun a h => h)
            exact .inl ⟨a, vs, rfl, SqT.frz ha, by rw [← s.length, ← hl], b2 vs σ H1 _ (by rw [← s.length, ← hl]) (w φ2 H1 _ g2)⟩
          | @lst a vs xs as' ha s =>
            cases hrow
            obtain ⟨φ2, g2⟩ := core s (fun a h => List.mem_cons_of_mem _ h)
            exact .inr ⟨a, vs, rfl, SqL.of ha, by rw [← s.length, ← hl], b2 vs σ H1 _ (by rw [← s.length, ← hl]) (w φ2 H1 _ g2)⟩
          | _ => cases hrow
      · exact w.elim
    · exact w.elim
/-! ### a, b = a new pair: both are the names' own -/
section
variable {M N : Addr → Prop} {fx : Addr → HO → Prop} {pin : Nat → Option V} {φ : Lab} {H : Hp} {env : Env} {σ : L2.St} {ts : List Tmp}
theorem Good.split2 {x y : D} {v : V} (g : Good M N fx pin φ H env σ (ts ++ [(true, .tup [x, y], v)])) : ∃ a ob vx vy φ', v = .ref a ∧ H a = some (.frz ob (.tup [vx, vy])) ∧ Good M N fx pin φ' H env σ ((ts ++ [(true, x, vx)]) ++ [(true, y, vy)]) := by
  obtain ⟨as, r, mm, lab, nd⟩ := g.tmp ts.length (true, .tup [x, y], v) (by simp)
  cases r with
  | @tup a ob vs xs _ ha hd s =>
    cases s with
    | @cons _ _ vx _ ax bx rx s =>
      cases s with
      | @cons _ _ vy _ ay by' ry s =>
        cases s
        rw [List.append_nil] at nd mm lab
        have dj := List.nodup_append.mp (nd rfl)
        have lab' : ∀ b ∈ ax ++ ay, φ b = some (.tmp ts.length) := fun b hb => lab b hb
        have oth : ∀ {l : Lb} {o : Bool} {d : D} {v : V}, l ≠ .tmp ts.length → Held φ H M l o d v → Held (fun b => if b ∈ ay then some (.tmp (ts.length + 1)) else φ b) H M l o d v := fun {l o d v} hl k => k.keep fun bs rb q => ⟨rb, fun b hb => by
          have hn : b ∉ ay := fun z => by
            have h1 := q b hb
            rw [lab' b (List.mem_append_right _ z)] at h1
            cases o with
            | true => simp at h1; exact hl h1.symm
            | false => cases h1
          show (if b ∈ ay then some (.tmp (ts.length + 1)) else φ b) = _
          rw [if_neg hn]; exact q b hb⟩
        refine ⟨a, ob, vx, vy, fun b => if b ∈ ay then some (.tmp (ts.length + 1)) else φ b, rfl, ha, ⟨g.len, fun c o h => ⟨(g.fix c o h).1, ?_⟩, fun c h => ?_, g.free, fun i s' h => (g.slot i s' h).keep fun o d v q => oth (fun z => nomatch z) q, fun j t h => ?_⟩⟩
        · have hn : c ∉ ay := fun z => by
            have := (g.fix c o h).2
            rw [lab' c (List.mem_append_right _ z)] at this; cases this
          show (if c ∈ ay then some (.tmp (ts.length + 1)) else φ c) = _
          rw [if_neg hn]; exact (g.fix c o h).2
        · refine g.own c fun z => ?_
          by_cases hc : c ∈ ay
          · rw [lab' c (List.mem_append_right _ hc)] at z; cases z
          · exact h (by show (if c ∈ ay then some (.tmp (ts.length + 1)) else φ c) = _; rw [if_neg hc]; exact z)
        · by_cases hj : j < ts.length
          · rw [List.append_assoc, List.getElem?_append_left hj] at h
            exact oth (fun z => by cases z; exact absurd hj (Nat.lt_irrefl _)) (g.tmp j t (by rw [List.getElem?_append_left hj]; exact h))
          · by_cases hj1 : j = ts.length
            · subst hj1
              simp at h
              subst h
              refine ⟨ax, rx, fun b hb => mm b (List.mem_append_left _ hb), fun b hb => ?_, fun _ => dj.1⟩
              have hn : b ∉ ay := fun z => dj.2.2 b hb b z rfl
              show (if b ∈ ay then some (.tmp (ts.length + 1)) else φ b) = _
              rw [if_neg hn]; exact lab' b (List.mem_append_left _ hb)
            · have hj2 : j = ts.length + 1 := by
                have := (List.getElem?_eq_some_iff.mp h).1
                simp at this; omega
              subst hj2
              simp at h
              subst h
              refine ⟨ay, ry, fun b hb => mm b (List.mem_append_right _ hb), fun b hb => ?_, fun _ => dj.2.1⟩
              show (if b ∈ ay then some (.tmp (ts.length + 1)) else φ b) = _
              rw [if_pos hb]
              simp
end
def unpO (i j : Nat) (m : GE) : SM := fun env => match m env with
  | .ok true (.tup [x, y]) e => .nx ((e.set j (.val true y)).set i (.val true x))
  | .ok _ _ _ => .no
  | .ex x e => .ex x e
  | .no => .no
theorem snds_unpO {ts : List Expr} {i j : Nat} {kk : Nat} {tpos pos : Pos} {e : Expr} {m : GE} (hcm : X.calm = true) (hij : i ≠ j) (h : SndE X E e m) (hgs : SndGs X ts [i, j]) (hs : swapsWithSole [.Tuple ts kk tpos] e pos.line X.env = pure false := by rfl) (hw : swappedStores [.Tuple ts kk tpos] e X.env = pure none := by rfl)
    (h1 : (assignEach [.Tuple ts kk tpos] X.env).map (·.2) = [assign (.Tuple ts kk tpos) X.env] := by rfl) (hn : (assignEach ts X.env).length = 2 := by rfl) (hst : (assignEach ts X.env).findIdx? (·.1) = none := by rfl) : SndS X E (.Assign [.Tuple ts kk tpos] e pos) (unpO i j m) := by
  obtain ⟨t, a1, a2⟩ := h
  obtain ⟨gg, b1, b2⟩ := hgs
  refine ⟨_, ps_asg a1 (pg_tup hcm b1 hn hst) hs hw h1, fun M N fx pin φ H env σ ts K g w => a2 M N fx pin φ H env σ ts _ g ?_⟩
  unfold unpO at w
  cases hm : m env with
  | no => rw [hm] at w; exact w
  | ex x e => rw [hm] at w; exact fun φ' H' c dx g' r => w φ' H' σ c dx g' r
  | ok o d e' =>
    rw [hm] at w
    intro φ1 H1 v g1
    split at w
    · rename_i x y e2 heq
      cases heq
      obtain ⟨a, ob, vx, vy, φ2, ev, ha, g2⟩ := g1.split2
      subst ev
      have g3 := g2.store (i := j)
      have g4 := g3.store (i := i)
      have e1 : setV σ [i, j] [vx, vy] = (σ.set j (some vy)).set i (some vx) := by
        show (σ.set i (some vx)).set j (some vy) = _
        exact List.set_comm _ _ hij
      have fin := w _ H1 _ g4
      rw [← e1] at fin
      exact ⟨a, [vx, vy], rfl, SqT.frz ha, rfl, b2 [vx, vy] σ H1 _ rfl fin⟩
    · exact w.elim
    · rename_i h' ; cases h'
    · rename_i h'; cases h'
end
end CB

namespace CB
open PySem L2 PySem.Spec PyProof.Rows
variable [CT]
section
variable {X : Cx} {E : XK}
/-! ### f(..).append(x), f(..).clear(): the new list is changed and forgotten -/
def appNewP (p q : P) : P := fun env => match p env with
  | .ok true (.lst xs) => match q env with
    | .ok _ _ => if szOk xs.length then .ok true .non else .no
    | .ex x => .ex x
    | .no => .no
  | .ok _ _ => .no
  | .ex x => .ex x
  | .no => .no
theorem snd_appNew {o e : Expr} {p q : P} {apos cpos : Pos} (ho : SndP X E o p) (h : SndP X E e q)
    (hbase : attributeBase o ("append" : Str) X.env (eval o X.env) = eval o X.env := by rfl)
    (hfew : ((backTo cpos (starEach [e] X.env)).all (fun x => !x.1) && (backToKw cpos (keywordEach [] X.env)).all (fun x => x.1.isSome)
      && decide (([e] : List Expr).length + ([] : List Keyword).length + (if ([] : List Keyword).isEmpty then 0 else 1) < 30)) = true := by rfl)
    (hline : (apos.endLine == cpos.line) = true := by rfl) (hs : starEach [e] X.env = (false, eval e X.env) :: starEach [] X.env := by rfl) (hplain : (backTo cpos (starEach [] X.env)).any (·.1) = false := by rfl) :
    SndP X E (.Call (.Attribute o ("append" : Str) apos) [e] [] cpos) (appNewP p q) := by
  obtain ⟨t, h1, h2⟩ := ho
  obtain ⟨u, g1, g2⟩ := h
  refine ⟨_, pe_bm PySem.F.plainAttrs_list PySem.F.slot_list_append PySem.F.type_list_append mt_append h1 (pa_cons g1 pa_nil hs) hbase hfew hline hs hplain, fun S env σ H Q ob w => h2 S env σ H _ ob ?_⟩
  unfold appNewP at w
  cases hp : p env with
  | no => rw [hp] at w; exact w
  | ex x => rw [hp] at w; exact w
  | ok f d =>
    rw [hp] at w
    intro v H1 as e1 r1 m1 n1
    cases r1 with
    | @lst a vs xs as' ha s =>
      cases f with
      | false => exact (show False from w).elim
      | true =>
        simp only at w
        have hn := (n1 rfl).2 a List.mem_cons_self
        refine ⟨tyV_list ha, g2 S env σ H1 _ (ob.mono e1) ?_⟩
        cases hq : q env with
        | no => rw [hq] at w; exact w
        | ex x => rw [hq] at w; exact fun c dx H' e' r => w c dx H' (e1.trans e') r
        | ok fb y =>
          rw [hq] at w
          simp only at w
          split at w
          · rename_i hz
            intro vy H2 bs e2 r2 m2 n2
            refine ⟨a, vs, vy, rfl, rfl, e2 _ _ ha, szOk_lt (by rw [← s.length]; exact hz), w .non _ [] ?_ .non noMem fun _ => .nil H⟩
            intro b o hb
            have : b ≠ a := fun z => by subst z; rw [hn] at hb; cases hb
            rw [upd_ne this]
            exact e2 _ _ (e1 _ _ hb)
          · exact w.elim
    | _ => cases f <;> exact (show False from w).elim
def clrNewP (p : P) : P := fun env => match p env with
  | .ok true (.lst _) => .ok true .non
  | .ok _ _ => .no
  | .ex x => .ex x
  | .no => .no
theorem snd_clrNew {o : Expr} {p : P} {apos cpos : Pos} (ho : SndP X E o p)
    (hbase : attributeBase o ("clear" : Str) X.env (eval o X.env) = eval o X.env := by rfl) (hline : (apos.endLine == cpos.line) = true := by rfl) :
    SndP X E (.Call (.Attribute o ("clear" : Str) apos) [] [] cpos) (clrNewP p) := by
  obtain ⟨t, h1, h2⟩ := ho
  refine ⟨_, pe_bm0 PySem.F.plainAttrs_list PySem.F.slot_list_clear PySem.F.type_list_clear mt_clear h1 hbase hline, fun S env σ H Q ob w => h2 S env σ H _ ob ?_⟩
  unfold clrNewP at w
  cases hp : p env with
  | no => rw [hp] at w; exact w
  | ex x => rw [hp] at w; exact w
  | ok f d =>
    rw [hp] at w
    intro v H1 as e1 r1 m1 n1
    cases r1 with
    | @lst a vs xs as' ha s =>
      cases f with
      | false => exact (show False from w).elim
      | true =>
        have hn := (n1 rfl).2 a List.mem_cons_self
        refine ⟨tyV_list ha, a, vs, rfl, rfl, ha, w .non _ [] ?_ .non noMem fun _ => .nil H⟩
        intro b o hb
        have : b ≠ a := fun z => by subst z; rw [hn] at hb; cases hb
        rw [upd_ne this]
        exact e1 _ _ hb
    | _ => cases f <;> exact (show False from w).elim
end
end CB

namespace CB
open PySem L2 PySem.Spec PyProof.Rows
variable [CT]
section
variable {X : Cx} {E : XK}
/-! ### a, b = a new list or tuple: shared from then on -/
def unpL (is : List Nat) (m : GE) : SM := fun env => match m env with
  | .ok _ d e => match rowOf d with
    | some ds => match setAll e is ds with
        | some e' => .nx e'
        | none => .no
    | none => .no
  | .ex x e => .ex x e
  | .no => .no
theorem snds_unpL {ts : List Expr} {is : List Nat} {kk : Nat} {tpos pos : Pos} {e : Expr} {m : GE} (hcm : X.calm = true) (h : SndE X E e m) (hgs : SndGs X ts is) (hs : swapsWithSole [.Tuple ts kk tpos] e pos.line X.env = pure false := by rfl) (hw : swappedStores [.Tuple ts kk tpos] e X.env = pure none := by rfl)
    (h1 : (assignEach [.Tuple ts kk tpos] X.env).map (·.2) = [assign (.Tuple ts kk tpos) X.env] := by rfl) (hn : (assignEach ts X.env).length = is.length := by rfl) (hst : (assignEach ts X.env).findIdx? (·.1) = none := by rfl) : SndS X E (.Assign [.Tuple ts kk tpos] e pos) (unpL is m) := by
  obtain ⟨t, a1, a2⟩ := h
  obtain ⟨gg, b1, b2⟩ := hgs
  refine ⟨_, ps_asg a1 (PG.or (pg_tup hcm b1 hn hst) (pg_unl hcm b1 hn hst)) hs hw h1, fun M N fx pin φ H env σ ts K g w => a2 M N fx pin φ H env σ ts _ g ?_⟩
  unfold unpL at w
  cases hm : m env with
  | no => rw [hm] at w; exact w
  | ex x e => rw [hm] at w; exact fun φ' H' c dx g' r => w φ' H' σ c dx g' r
  | ok o d e' =>
    rw [hm] at w
    intro φ1 H1 v g1
    simp only at w
    split at w
    · rename_i ds hrow
      cases hb : setAll e' is ds with
      | none => rw [hb] at w; exact w.elim
      | some e2 =>
        rw [hb] at w
        obtain ⟨φ', as, g', r, mm⟩ := g1.shareT
        have core : ∀ {vs : List V} {bs : List Addr}, Reps H1 ds vs bs → (∀ a ∈ bs, a ∈ as) → ∃ φ2, Good M N fx pin φ2 H1 e2 (setV σ is vs) ts := fun rs hsub => g'.bindAll rs (fun a ha => mm a (hsub a ha)) hb
        have hl := setAll_len hb
        cases r with
        | @tup a ob vs xs _ ha hd s =>
          cases hrow
          obtain ⟨φ2, g2⟩ := core s (fun a h => h)
          exact .inl ⟨a, vs, rfl, SqT.frz ha, by rw [← s.length, ← hl], b2 vs σ H1 _ (by rw [← s.length, ← hl]) (w φ2 H1 _ g2)⟩
        | @lst a vs xs as' ha s =>
          cases hrow
          obtain ⟨φ2, g2⟩ := core s (fun a h => List.mem_cons_of_mem _ h)
          exact .inr ⟨a, vs, rfl, SqL.of ha, by rw [← s.length, ← hl], b2 vs σ H1 _ (by rw [← s.length, ← hl]) (w φ2 H1 _ g2)⟩
        | _ => cases hrow
    · exact w.elim
end
end CB

namespace CB
open PySem L2 PySem.Spec PyProof.Rows
variable [CT]
/-! ### (a, b) of two owned things: the pair owns both -/
section
variable {M N : Addr → Prop} {fx : Addr → HO → Prop} {pin : Nat → Option V} {φ : Lab} {H H' : Hp} {env : Env} {σ : L2.St} {ts : List Tmp}
theorem Good.merge2 {x y : D} {vx vy : V} {a : Addr} {ob : Obj} (g0 : Good M N fx pin φ H env σ (ts ++ [(true, x, vx), (true, y, vy)])) (e : Ex H H') (ha : H' a = some (.frz ob (.tup [vx, vy]))) (hd : ob.dict = none) : ∃ φ', Good M N fx pin φ' H' env σ (ts ++ [(true, .tup [x, y], .ref a)]) := by
  have g := g0.ext e
  obtain ⟨ax, rx, mx, lx, nx⟩ := g.tmp ts.length (true, x, vx) (by simp)
  obtain ⟨ay, ry, my, ly, ny⟩ := g.tmp (ts.length + 1) (true, y, vy) (by simp)
  have lx' : ∀ b ∈ ax, φ b = some (.tmp ts.length) := fun b hb => lx b hb
  have ly' : ∀ b ∈ ay, φ b = some (.tmp (ts.length + 1)) := fun b hb => ly b hb
  have dj : ∀ b ∈ ax, b ∉ ay := fun b hb hb' => by
    have := lx' b hb
    rw [ly' b hb'] at this
    simp at this
  have oth : ∀ {l : Lb} {o : Bool} {d : D} {v : V}, l ≠ .tmp (ts.length + 1) → Held φ H' M l o d v → Held (fun b => if b ∈ ay then some (.tmp ts.length) else φ b) H' M l o d v := fun {l o d v} hl k => k.keep fun bs rb q => ⟨rb, fun b hb => by
    have hn : b ∉ ay := fun z => by
      have h1 := q b hb
      rw [ly' b z] at h1
      cases o with
      | true => simp at h1; exact hl h1.symm
      | false => cases h1
    show (if b ∈ ay then some (.tmp ts.length) else φ b) = _
    rw [if_neg hn]; exact q b hb⟩
  refine ⟨fun b => if b ∈ ay then some (.tmp ts.length) else φ b, ⟨g.len, fun c o h => ⟨(g.fix c o h).1, ?_⟩, fun c h => ?_, g.free, fun i s' h => (g.slot i s' h).keep fun o d v q => oth (fun z => nomatch z) q, fun j t h => ?_⟩⟩
  · have hn : c ∉ ay := fun z => by
      have := (g.fix c o h).2
      rw [ly' c z] at this; cases this
    show (if c ∈ ay then some (.tmp ts.length) else φ c) = _
    rw [if_neg hn]; exact (g.fix c o h).2
  · refine g.own c fun z => ?_
    by_cases hc : c ∈ ay
    · rw [ly' c hc] at z; cases z
    · exact h (by show (if c ∈ ay then some (.tmp ts.length) else φ c) = _; rw [if_neg hc]; exact z)
  · by_cases hj : j < ts.length
    · rw [List.getElem?_append_left hj] at h
      exact oth (fun z => by cases z; omega) (g.tmp j t (by rw [List.getElem?_append_left hj]; exact h))
    · have hj' : j = ts.length := by
        have := (List.getElem?_eq_some_iff.mp h).1
        simp at this; omega
      subst hj'
      simp at h
      subst h
      refine ⟨ax ++ (ay ++ []), .tup ha hd (.cons rx (.cons ry .nil)), fun b hb => ?_, fun b hb => ?_, fun _ => ?_⟩
      · rw [List.append_nil] at hb
        exact (List.mem_append.mp hb).elim (mx b) (my b)
      · rw [List.append_nil] at hb
        show (if b ∈ ay then some (.tmp ts.length) else φ b) = _
        rcases List.mem_append.mp hb with z | z
        · rw [if_neg (dj b z)]; exact lx' b z
        · rw [if_pos z]; rfl
      · rw [List.append_nil]
        exact List.nodup_append.mpr ⟨nx rfl, ny rfl, fun b hb c hc ec => dj b hb (ec ▸ hc)⟩
end
def pairO (ms : List GA) : GE := fun env => match argsG ms env with
  | .ok [.t true x, .t true y] env1 => .ok true (.tup [x, y]) env1
  | .ok _ _ => .no
  | .ex x e => .ex x e
  | .no => .no
section
variable {X : Cx} {E : XK}
theorem snde_pair {es : List Expr} {ms : List GA} {k : Nat} {pos : Pos} (h : SndAG X E es ms) : SndE X E (.Tuple es k pos) (pairO ms) := by
  obtain ⟨t, h1, h2⟩ := h
  refine ⟨_, pe_tupF h1, fun M N fx pin φ H env σ ts Q g w => h2 M N fx pin φ H env σ ts _ g ?_⟩
  unfold pairO at w
  cases ha : argsG ms env with
  | no => rw [ha] at w; exact w
  | ex x e => rw [ha] at w; exact w
  | ok us env1 =>
    rw [ha] at w
    intro φ1 H1 vs ws hvm g1
    split at w
    · rename_i x y e1 heq
      cases heq
      cases hvm with
      | @t _ _ vx _ vs' ws' hvm => cases hvm with
        | @t _ _ vy _ vs' ws' hvm =>
          cases hvm
          refine ⟨Nat.le_trans (by decide : 2 ≤ 900) (by decide), fun p o hp hd => ?_⟩
          obtain ⟨φ2, g2⟩ := g1.merge2 (Ex.new hp) (a := p) (ob := o) upd_same hd
          exact w φ2 _ _ g2
    · exact w.elim
    · cases ‹_ = _›
    · cases ‹_ = _›
end
end CB

namespace CB
open PySem L2 PySem.Spec PyProof.Rows PySem.W
variable [CT]
/-! ### a < b, a > b of tuples (and of whole numbers) -/
section
variable {X : Cx}
def rLtX (K : PySem.W.Frag) : R2 := fun x y H Q => rI0 (fun i j => .bl (decide (i < j))) x y H Q ∨ ∃ d e, Dp K H x d ∧ Dp K H y e ∧ alike d e = true ∧ d ≠ .none ∧ d.depth ≤ 60 ∧ Q (.bl (dataLt d e)) H
theorem op_ltX (hu : X.A.units + 64 < cLine) : OpR X (compareOp .Lt) (rLtX X.K) := by
  intro pins s σ H x y v u Q I rx ry h
  rcases h with h | h
  · exact op_lt pins s σ H x y v u Q I rx ry h
  · obtain ⟨d, e, hd, he, al, hn, dp, q⟩ := h
    obtain ⟨as, r1⟩ := Dp.reads I d x v hd rx
    obtain ⟨bs, r2⟩ := Dp.reads I e y u he ry
    exact lt_data r1 r2 al hn (by omega) ⟨.bl _, H, I, rfl, q⟩
def rGtX (K : PySem.W.Frag) : R2 := fun x y H Q => rI0 (fun i j => .bl (decide (j < i))) x y H Q ∨ ∃ d e, Dp K H x d ∧ Dp K H y e ∧ alike d e = true ∧ d ≠ .none ∧ d.depth ≤ 60 ∧ Q (.bl (dataLt e d)) H
theorem op_gtX (hu : X.A.units + 64 < cLine) : OpR X (compareOp .Gt) (rGtX X.K) := by
  intro pins s σ H x y v u Q I rx ry h
  rcases h with h | h
  · exact op_gt pins s σ H x y v u Q I rx ry h
  · obtain ⟨d, e, hd, he, al, hn, dp, q⟩ := h
    obtain ⟨as, r1⟩ := Dp.reads I d x v hd rx
    obtain ⟨bs, r2⟩ := Dp.reads I e y u he ry
    exact gt_data r1 r2 al hn (by omega) ⟨.bl _, H, I, rfl, q⟩
end
def isTp : D → Bool
  | .tup _ => true
  | _ => false
def cmpOk (x y : D) : Bool := isTp x && eqOk x && eqOk y && alike (dat x) (dat y) && decide ((dat x).depth ≤ 60)
def dLtX (x y : D) : Option (Kd × D) := match x, y with
  | .int i, .int j => some (.new, .bl (decide (i < j)))
  | x, y => if cmpOk x y then some (.new, .bl (dataLt (dat x) (dat y))) else none
def dGtX (x y : D) : Option (Kd × D) := match x, y with
  | .int i, .int j => some (.new, .bl (decide (j < i)))
  | x, y => if cmpOk x y then some (.new, .bl (dataLt (dat y) (dat x))) else none
theorem cmp_ok {K : PySem.W.Frag} {H : Hp} {x y : D} {v w : V} {as bs : List Addr} (r1 : Rep H x v as) (r2 : Rep H y w bs) (h : cmpOk x y = true) : Dp K H v (dat x) ∧ Dp K H w (dat y) ∧ alike (dat x) (dat y) = true ∧ dat x ≠ .none ∧ (dat x).depth ≤ 60 := by
  simp only [cmpOk, Bool.and_eq_true, decide_eq_true_eq] at h
  obtain ⟨⟨⟨⟨h1, h2⟩, h3⟩, h4⟩, h5⟩ := h
  refine ⟨r1.dp (lay_of h2), r2.dp (lay_of h3), h4, ?_, h5⟩
  cases x <;> simp [isTp] at h1
  simp [dat]
theorem v_ltX (K : PySem.W.Frag) : V2 (rLtX K) dLtX := by
  intro H x y v w as bs k d Q r1 r2 hf hq
  unfold dLtX at hf
  split at hf
  · cases hf
    cases r1
    cases r2
    exact .inl ⟨_, _, rfl, rfl, hq _ H [] (Ex.refl H) (.bl _) KdOk.nil⟩
  · split at hf
    · rename_i h
      cases hf
      obtain ⟨a, b, c, e, f⟩ := cmp_ok (K := K) r1 r2 h
      exact .inr ⟨_, _, a, b, c, e, f, hq _ H [] (Ex.refl H) (.bl _) KdOk.nil⟩
    · cases hf
theorem v_gtX (K : PySem.W.Frag) : V2 (rGtX K) dGtX := by
  intro H x y v w as bs k d Q r1 r2 hf hq
  unfold dGtX at hf
  split at hf
  · cases hf
    cases r1
    cases r2
    exact .inl ⟨_, _, rfl, rfl, hq _ H [] (Ex.refl H) (.bl _) KdOk.nil⟩
  · split at hf
    · rename_i h
      cases hf
      obtain ⟨a, b, c, e, f⟩ := cmp_ok (K := K) r1 r2 h
      exact .inr ⟨_, _, a, b, c, e, f, hq _ H [] (Ex.refl H) (.bl _) KdOk.nil⟩
    · cases hf
end CB

namespace CB
open PySem L2 PySem.Spec PyProof.Rows
variable [CT]
/-! ### [f(..), g(..), x]: a new thing of lists, shared from then on -/
section
variable {M N : Addr → Prop} {fx : Addr → HO → Prop} {pin : Nat → Option V} {φ : Lab} {H H' : Hp} {env : Env} {σ : L2.St}
def unT (n : Nat) (φ : Lab) : Lab := fun a => match φ a with
  | some (.tmp j) => if j < n then some (.tmp j) else none
  | x => x
theorem unT_keep {n : Nat} {φ : Lab} {a : Addr} {l : Option Lb} (h : φ a = l) (hl : ∀ j, l = some (.tmp j) → j < n) : unT n φ a = l := by
  unfold unT
  rw [h]
  cases l with
  | none => rfl
  | some l => cases l with
    | slot i => rfl
    | tmp j => simp only; rw [if_pos (hl j rfl)]
theorem unT_some {n : Nat} {φ : Lab} {a : Addr} (h : unT n φ a ≠ none) : φ a ≠ none := fun z => h (by unfold unT; rw [z])
theorem Good.shareW {ts ws : List Tmp} (g : Good M N fx pin φ H env σ (ts ++ ws)) : Good M N fx pin (unT ts.length φ) H env σ ts := by
  have oth : ∀ {l : Lb} {o : Bool} {d : D} {v : V}, (∀ j, l = .tmp j → j < ts.length) → Held φ H M l o d v → Held (unT ts.length φ) H M l o d v := fun {l o d v} hl k => k.keep fun as r q => ⟨r, fun a ha => unT_keep (q a ha) fun j e => by
    cases o with
    | true => simp at e; exact hl j e
    | false => cases e⟩
  refine ⟨g.len, fun a o h => ⟨(g.fix a o h).1, unT_keep (g.fix a o h).2 fun j e => nomatch e⟩, fun a h => g.own a (unT_some h), g.free, fun i s h => (g.slot i s h).keep fun o d v k => oth (fun j e => nomatch e) k, fun j t h => ?_⟩
  have hj : j < ts.length := (List.getElem?_eq_some_iff.mp h).1
  exact oth (fun i e => by cases e; exact hj) (g.tmp j t (by rw [List.getElem?_append_left hj]; exact h))
theorem Good.lookLab {ts : List Tmp} (g : Good M N fx pin φ H env σ ts) {i : Nat} {d : D} {v : V} (h : Env.look env i = some d) (hv : σ[i]? = some (some v)) : ∃ as, Rep H d v as ∧ ∀ a ∈ as, M a ∧ (φ a = none ∨ φ a = some (.slot i)) := by
  unfold Env.look at h
  cases e : env[i]? with
  | none => rw [e] at h; cases h
  | some s =>
    rw [e] at h
    have k := g.slot i s e
    cases s with
    | emp => cases h
    | pin => cases h
    | val o d' =>
      cases h
      obtain ⟨v', h1, as, r, m, l, _⟩ := k
      rw [hv] at h1; cases h1
      exact ⟨as, r, fun a ha => ⟨m a ha, by have := l a ha; cases o with
        | true => exact .inr this
        | false => exact .inl this⟩⟩
    | ref d' =>
      cases h
      obtain ⟨v', h1, _, as, r, m, l, _⟩ := k
      rw [hv] at h1; cases h1
      exact ⟨as, r, fun a ha => ⟨m a ha, .inr (l a ha)⟩⟩
def varsU : List U → List Nat
  | [] => []
  | .t _ _ :: us => varsU us
  | .v i :: us => i :: varsU us
theorem Vm.labs {us : List U} {vs : List V} {ws : List Tmp} (h : Vm σ us vs ws) : ∀ {ts : List Tmp} {ds : List D}, Good M N fx pin φ H env σ (ts ++ ws) → valsU env us = some ds → ∃ as, Reps H ds vs as ∧ ∀ a ∈ as, M a ∧ (φ a = none ∨ (∃ j, ts.length ≤ j ∧ φ a = some (.tmp j)) ∨ ∃ i ∈ varsU us, φ a = some (.slot i)) := by
  induction h with
  | nil => intro ts ds g e; cases e; exact ⟨[], .nil, fun a h => nomatch h⟩
  | @t o d v us vs ws hv ih =>
    intro ts ds g e
    simp only [valsU] at e
    cases e2 : valsU env us with
    | none => rw [e2] at e; cases e
    | some es =>
      rw [e2] at e; cases e
      obtain ⟨bs, rb, lb⟩ := ih (ts := ts ++ [(o, d, v)]) (by simpa using g) e2
      obtain ⟨as, ra, ma, la, _⟩ := g.tmp ts.length (o, d, v) (by simp)
      refine ⟨as ++ bs, .cons ra rb, fun a ha => ?_⟩
      rcases List.mem_append.mp ha with z | z
      · refine ⟨ma a z, ?_⟩
        have := la a z
        cases o with
        | true => exact .inr (.inl ⟨_, Nat.le_refl _, this⟩)
        | false => exact .inl this
      · obtain ⟨m, k⟩ := lb a z
        refine ⟨m, ?_⟩
        rcases k with k | ⟨j, hj, k⟩ | ⟨i, hi, k⟩
        · exact .inl k
        · exact .inr (.inl ⟨j, by rw [List.length_append] at hj; omega, k⟩)
        · exact .inr (.inr ⟨i, hi, k⟩)
  | @v i v us vs ws hi hv ih =>
    intro ts ds g e
    simp only [valsU] at e
    cases e1 : Env.look env i with
    | none => rw [e1] at e; cases e
    | some d =>
      rw [e1] at e
      simp only at e
      cases e2 : valsU env us with
      | none => rw [e2] at e; cases e
      | some es =>
        rw [e2] at e; cases e
        obtain ⟨bs, rb, lb⟩ := ih g e2
        obtain ⟨as, ra, la⟩ := g.lookLab e1 hi
        refine ⟨as ++ bs, .cons ra rb, fun a ha => ?_⟩
        rcases List.mem_append.mp ha with z | z
        · obtain ⟨m, k⟩ := la a z
          exact ⟨m, k.imp id fun k => .inr ⟨i, List.mem_cons_self, k⟩⟩
        · obtain ⟨m, k⟩ := lb a z
          refine ⟨m, k.imp id fun k => k.imp id fun ⟨j, hj, k⟩ => ⟨j, List.mem_cons_of_mem _ hj, k⟩⟩
theorem Vm.share {us : List U} {vs : List V} {ws ts : List Tmp} {ds : List D} (h : Vm σ us vs ws) (g : Good M N fx pin φ H env σ (ts ++ ws)) (e : valsU env us = some ds) : ∃ φ' as, Good M N fx pin φ' H (demK (varsU us) env) σ ts ∧ Reps H ds vs as ∧ ∀ a ∈ as, M a ∧ φ' a = none := by
  obtain ⟨as, r, l⟩ := h.labs g e
  obtain ⟨φ', g', k1, k2⟩ := g.shareW.demK (varsU us)
  refine ⟨φ', as, g', r, fun a ha => ⟨(l a ha).1, ?_⟩⟩
  rcases (l a ha).2 with z | ⟨j, hj, z⟩ | ⟨i, hi, z⟩
  · exact k1 a (unT_keep z fun j e => nomatch e)
  · refine k1 a ?_
    unfold unT
    rw [z]
    simp only
    rw [if_neg (by omega)]
  · exact k2 i hi a (unT_keep z fun j e => nomatch e)
end
def lstS (ms : List GA) : GE := fun env => match argsG ms env with
  | .ok us env1 => match valsU env1 us with
    | some ds => if szOk ds.length then .ok false (.lst ds) (demK (varsU us) env1) else .no
    | none => .no
  | .ex x e => .ex x e
  | .no => .no
section
variable {X : Cx} {E : XK}
theorem snde_lstS {es : List Expr} {ms : List GA} {pos : Pos} (h : SndAG X E es ms) : SndE X E (.List es pos) (lstS ms) := by
  obtain ⟨t, h1, h2⟩ := h
  refine ⟨_, pe_lst h1, fun M N fx pin φ H env σ ts Q g w => h2 M N fx pin φ H env σ ts _ g ?_⟩
  unfold lstS at w
  cases ha : argsG ms env with
  | no => rw [ha] at w; exact w
  | ex x e => rw [ha] at w; exact w
  | ok us env1 =>
    rw [ha] at w
    intro φ1 H1 vs ws hvm g1
    simp only at w
    cases e1 : valsU env1 us with
    | none => rw [e1] at w; exact w.elim
    | some ds =>
      rw [e1] at w
      simp only at w
      split at w
      · rename_i hz
        obtain ⟨φ2, as, g2, r, l⟩ := hvm.share g1 e1
        refine ⟨by rw [← r.length]; exact szOk_le hz, fun p hp => ?_⟩
        refine w φ2 _ _ (g2.pushS (Ex.new hp) (.newL hp r) (fun a ha => ?_) fun a ha => ?_)
        · rcases List.mem_cons.mp ha with z | z
          · rw [z]; exact .inr hp
          · exact .inl (l a z).1
        · rcases List.mem_cons.mp ha with z | z
          · rw [z]; exact g2.lab_none hp
          · exact (l a z).2
      · exact w.elim
end
end CB

namespace CB
open PySem L2 PySem.Spec PyProof.Rows
variable [CT]
/-! ### for x in NAME: the name's own list is out of the body's sight, and the name's own again behind the loop -/
def forM (i : Nat) (τ : Tgt) (m : SM) : SM := fun env => match env[i]? with
  | some (.val _ (.lst xs)) => if noLs xs then scopeS ((List.range env.length).filter fun k => k != i) [] (fun e => loopS τ m xs e) env else .no
  | _ => .no
section
variable {X : Cx} {E : XK}
theorem snds_forM (i : Nat) {x : Str} {tg : Expr} {body : List Stmt} {τ : Tgt} {m : SM} {p pos : Pos} (hp : PassesOwn (model X.prog X.w) X.A X.env X.xe) (hc : X.calm = true) (hN : X.N[i]? = some x) (hv : Vis X.env.scope x) (hg : SndG X tg τ) (hb : SndB X E body m) (hd : (x == ("__debug__" : Str)) = false := by decide) (hcd : (x == ("__classdict__" : Str)) = false := by decide)
    (hs : ∀ y, foldedSetIterable (.Name x p) X.env y = pure y := by intro _; rfl) : SndS X E (.For tg (.Name x p) body [] pos) (forM i τ m) := by
  obtain ⟨gg, q1, q2⟩ := hg
  obtain ⟨tb, b1, b2⟩ := hb
  refine ⟨_, ps_for hp hc (pi_seqF (pe_var hN hv hd hcd)) q1 b1 hs, fun M N fx pin φ H env σ ts K g w => ?_⟩
  unfold forM at w
  cases he : env[i]? with
  | none => rw [he] at w; exact w.elim
  | some s =>
    rw [he] at w
    have gs := g.slot i s he
    cases s with
    | emp => exact (show False from w).elim
    | pin => exact (show False from w).elim
    | ref d => exact (show False from w).elim
    | val o d =>
      obtain ⟨v, hv', as, r, mm, lab, nd⟩ := gs
      cases r with
      | @lst a vs xs as' ha s =>
        simp only at w
        split at w
        · rename_i hz
          refine ⟨.ref a, hv', a, rfl, .inl ⟨vs, SqL.of ha, ?_⟩⟩
          have gm := g.masked (ks := (List.range env.length).filter fun k => k != i) (ws := [])
          have wm := scope_want g w
          have hfa : hφ ((List.range env.length).filter fun k => k != i) [] φ a = none := by
            have la := lab a List.mem_cons_self
            cases o with
            | false => unfold hφ; rw [hA_none la]; exact la
            | true =>
              have la' : φ a = some (.slot i) := la
              unfold hφ
              rw [hA_slot la']
              have : hb ((List.range env.length).filter fun k => k != i) [] i = true := by
                unfold hb
                simp
              rw [this]; rfl
          have rn : ∀ j, j < xs.length → ∃ bs, Reps H (xs[j]?).toList (vs[j]?).toList bs ∧ bs = [] := fun j hj => by
            obtain ⟨bs, rb, _⟩ := reps_each (S := fun _ => True) (H := H) s (fun b _ => .inl trivial) j hj
            refine ⟨bs, rb, rb.noL ?_⟩
            have e : xs[j]? = some xs[j] := by simp
            rw [e]
            have : ∀ {l : List D}, noLs l = true → ∀ d ∈ l, noL d = true := by
              intro l
              induction l with
              | nil => intro _ d h; cases h
              | cons x l ih =>
                intro h d hd
                simp only [noLs, Bool.and_eq_true] at h
                rcases List.mem_cons.mp hd with z | z
                · subst z; exact h.1
                · exact ih h.2 d z
            simp [noLs, this hz _ (List.getElem_mem hj)]
          have shd : Shd (hφ ((List.range env.length).filter fun k => k != i) [] φ) H (hM ((List.range env.length).filter fun k => k != i) [] φ M) ((List.range xs.length).flatMap fun j => shT (xs[j]?).toList (vs[j]?).toList) := fun t ht => by
            obtain ⟨j, hj, ht⟩ := List.mem_flatMap.mp ht
            obtain ⟨bs, rb, eb⟩ := rn j (List.mem_range.mp hj)
            subst eb
            exact (rb.shd fun b hb => nomatch hb) t ht
          refine loop_core b2 q2 (serves_list s) (fun j hj => ?_) (fun t ht => (shd t ht).1) ((gm.keepT shd).fixed fun b u ⟨z1, z2⟩ => by subst z1 z2; exact ⟨ha, hfa⟩) gm.free wm
          obtain ⟨bs, rb, _⟩ := rn j hj
          exact ⟨rb.length, fun t ht => List.mem_flatMap.mpr ⟨j, List.mem_range.mpr hj, ht⟩⟩
        · exact (show False from w).elim
      | _ => exact (show False from w).elim
end
end CB

namespace CB
open PySem L2 PySem.Spec PyProof.Rows
variable [CT]
/-! ### NAME[index], where the name is not needed any more: the item is taken out of the name's own list -/
def mvIx (i : Nat) (m : GE) : GE := fun env => match Env.look env i with
  | some _ => match m env with
    | .ok _ (.int k) e => match e[i]? with
      | some (.val true (.lst xs)) => match L2.atI xs k with
        | some d => .ok true d (e.set i .emp)
        | none => .no
      | _ => .no
    | .ok _ _ _ => .no
    | .ex x e => .ex x e
    | .no => .no
  | none => .no
section
variable {M N : Addr → Prop} {fx : Addr → HO → Prop} {pin : Nat → Option V} {φ : Lab} {H : Hp} {env : Env} {σ : L2.St} {ts : List Tmp}
theorem Good.takeOut (g : Good M N fx pin φ H env σ ts) {i : Nat} {xs : List D} (he : env[i]? = some (.val true (.lst xs))) {k : Int} {d : D} (hd : L2.atI xs k = some d) : ∃ a vs v φ', σ[i]? = some (some (.ref a)) ∧ H a = some (.lst vs) ∧ L2.atI vs k = some v ∧ Good M N fx pin φ' H (env.set i .emp) σ (ts ++ [(true, d, v)]) := by
  obtain ⟨u, h1, as, r, m, q, n⟩ := g.slot i _ he
  cases r with
  | @lst a vs xs as' ha s =>
    obtain ⟨v, bs, cs, es, e1, e2, e3⟩ := s.atI hd
    have hsub : ∀ b ∈ bs, b ∈ a :: as' := fun b hb => List.mem_cons_of_mem _ (by rw [e3]; exact List.mem_append_left _ (List.mem_append_right _ hb))
    refine ⟨a, vs, v, fun a => if φ a = some (.slot i) then some (.tmp ts.length) else φ a, h1, ha, e1, ?_⟩
    have oth : ∀ {l : Lb} {o : Bool} {d : D} {v : V}, l ≠ .slot i → Held φ H M l o d v → Held (fun a => if φ a = some (.slot i) then some (.tmp ts.length) else φ a) H M l o d v := fun {l o d v} hl k => k.keep fun as r q => ⟨r, fun a ha => by
      show (if φ a = some (.slot i) then some (.tmp ts.length) else φ a) = _
      rw [q a ha]
      cases o with
      | true => simp [hl]
      | false => simp⟩
    refine ⟨by have := g.len; unfold Lens at *; rw [List.length_set]; exact this, fun a o h => ⟨(g.fix a o h).1, by show (if φ a = some (.slot i) then some (.tmp ts.length) else φ a) = _; rw [(g.fix a o h).2]; simp⟩, fun a h => g.own a fun z => h (by show (if φ a = some (.slot i) then some (.tmp ts.length) else φ a) = _; rw [z]; simp), g.free, fun k s h => ?_, fun j t h => ?_⟩
    · by_cases hk : k = i
      · subst hk
        have hl : k < env.length := (List.getElem?_eq_some_iff.mp he).1
        rw [List.getElem?_set_self hl] at h
        cases h; trivial
      · rw [List.getElem?_set_ne (Ne.symm hk)] at h
        exact (g.slot k s h).keep fun o d v q => oth (fun z => hk (by cases z; rfl)) q
    · by_cases hj : j < ts.length
      · rw [List.getElem?_append_left hj] at h
        exact oth (fun z => nomatch z) (g.tmp j t h)
      · have hj' : j = ts.length := by
          have := (List.getElem?_eq_some_iff.mp h).1
          simp at this; omega
        subst hj'
        simp at h
        subst h
        refine ⟨bs, e2, fun b hb => m b (hsub b hb), fun b hb => ?_, fun _ => ?_⟩
        · show (if φ b = some (.slot i) then some (.tmp ts.length) else φ b) = _
          rw [q b (hsub b hb)]; simp
        · have := n rfl
          rw [e3] at this
          have h2 := (List.nodup_cons.mp this).2
          exact (List.nodup_append.mp (List.nodup_append.mp h2).1).2.1
end
section
variable {X : Cx} {E : XK}
theorem snde_mvIx (i : Nat) {x : Str} {p pos : Pos} {e2 : Expr} {m : GE} (hN : X.N[i]? = some x) (hv : Vis X.env.scope x) (h : SndE X E e2 m) (hm : PlainIx e2 := by intro _ _; rfl) (hd : (x == ("__debug__" : Str)) = false := by decide) (hcd : (x == ("__classdict__" : Str)) = false := by decide) : SndE X E (.Subscript (.Name x p) e2 pos) (mvIx i m) := by
  obtain ⟨t, h1, h2⟩ := h
  refine ⟨_, pe_ix ix_seq (pe_var hN hv hd hcd) h1 hm, fun M N fx pin φ H env σ ts Q g w => ?_⟩
  unfold mvIx at w
  cases hl : Env.look env i with
  | none => rw [hl] at w; exact w.elim
  | some d0 =>
    rw [hl] at w
    obtain ⟨v0, as0, k1, _⟩ := g.obs.get i d0 hl
    refine ⟨v0, k1, h2 M N fx pin φ H env σ ts _ g ?_⟩
    cases hmm : m env with
    | no => rw [hmm] at w; exact w
    | ex x e => rw [hmm] at w; exact w
    | ok o d e =>
      rw [hmm] at w
      intro φ1 H1 u g1
      obtain ⟨as, r, _⟩ := g1.tmp ts.length (o, d, u) (by simp)
      cases r with
      | int k =>
        simp only at w
        split at w
        · rename_i xs he
          split at w
          · rename_i d' hd'
            obtain ⟨a, vs, v, φ2, q1, q2, q3, g2⟩ := g1.drop1.takeOut he hd'
            rw [k1] at q1
            cases q1
            exact .inl ⟨a, vs, k, v, rfl, rfl, SqL.of q2, q3, w φ2 H1 v g2⟩
          · exact w.elim
        · exact w.elim
      | _ => exact (show False from w).elim
end
end CB

namespace CB
open PySem L2 PySem.Spec PyProof.Rows
variable [CT]

/-! ### str(x) -/
def shOk (d : D) : Bool := eqOk d && (dat d).showable && decide ((dat d).depth ≤ 60) && decide ((dat d).shown.length ≤ sizeLine)
def dStr : List D → Option (Kd × D)
  | [.non] => some (.new, .str "None")
  | [.bl b] => some (.new, .str (if b then "True" else "False"))
  | [.int i] => if decide (i.natAbs.log2 < 1920) then some (.new, .str (toString i)) else none
  | [.str s] => some (.new, .str s)
  | [.tup xs] => if shOk (.tup xs) then some (.new, .str (dat (.tup xs)).shown) else none
  | [.lst xs] => if shOk (.lst xs) then some (.new, .str (dat (.lst xs)).shown) else none
  | _ => none
def rStr (K : PySem.W.Frag) : List V → Hp → VK → Prop := fun vs H Q =>
  (vs = [.non] ∧ Q (.str "None") H) ∨ (∃ b, vs = [.bl b] ∧ Q (.str (if b then "True" else "False")) H) ∨ (∃ i, vs = [.int i] ∧ i.natAbs.log2 < 1920 ∧ Q (.str (toString i)) H) ∨ (∃ z, vs = [.str z] ∧ Q (.str z) H) ∨
  (∃ a d, vs = [.ref a] ∧ Dp K H (.ref a) d ∧ d.showable = true ∧ d.hasDict = false ∧ d.depth ≤ 60 ∧ d.shown.length ≤ sizeLine ∧ Q (.str d.shown) H)
section
variable {X : Cx} {E : XK}
theorem cr_str {k : Nat} (hr : RoomG k X.A) : CallR X (.type "str") (rStr X.K) := by
  intro pins s σ H xs us Q I r h
  rcases h with ⟨rfl, q⟩ | ⟨b, rfl, q⟩ | ⟨i, rfl, hi, q⟩ | ⟨z, rfl, q⟩ | ⟨a, d, rfl, hd, hs, hn, hp, hz, q⟩
  · obtain ⟨u, rfl, ru⟩ := vals1 r
    cases (show u = Value.none from ru)
    exact P.str_of_none ⟨.str _, H, I.tok _, ⟨_, rfl⟩, q⟩
  · obtain ⟨u, rfl, ru⟩ := vals1 r
    cases (show u = Value.bool b from ru)
    exact P.str_of_bool ⟨.str _, H, I.tok _, ⟨_, rfl⟩, q⟩
  · obtain ⟨u, rfl, t, rfl⟩ := vals1 r
    exact P.str_of_int hi ⟨.str _, H, I.tok _, ⟨_, rfl⟩, q⟩
  · obtain ⟨u, rfl, t, rfl⟩ := vals1 r
    exact P.str_of_str ⟨.str _, H, I, ⟨_, rfl⟩, q⟩
  · obtain ⟨u, rfl, ru⟩ := vals1 r
    cases (show u = Value.ref a from ru)
    obtain ⟨as, rd⟩ := Dp.reads I _ _ _ hd (show RelV (.ref a) (.ref a) from rfl)
    refine str_of_reads rd hs (PyData.noDict_hsm hn) hr.gd (by have := hr.un; omega) (fun _ _ e => e) (fun h' u tk hk => ⟨.str _, H, ?_, ⟨_, rfl⟩, q⟩) hz
    exact I.kept hk
end
theorem v_str (K : PySem.W.Frag) : VN (rStr K) dStr := by
  intro H ds vs as k d Q r hf hq
  have ref : ∀ {x : D} {a : Addr} {bs : List Addr}, Rep H x (.ref a) bs → shOk x = true → Q (.str (dat x).shown) H → rStr K [.ref a] H Q := fun {x a bs} rx hx q => by
    simp only [shOk, Bool.and_eq_true, decide_eq_true_eq] at hx
    exact .inr (.inr (.inr (.inr ⟨a, dat x, rfl, rx.dp (lay_of hx.1.1.1), hx.1.1.2, PyData.hasDict_of_canLay _ (lay_of hx.1.1.1), hx.1.2, hx.2, q⟩)))
  unfold dStr at hf
  split at hf
  · cases hf; cases r with | cons r1 rs => cases rs; cases r1; exact .inl ⟨rfl, hq _ H [] (Ex.refl H) (.str _) KdOk.nil⟩
  · cases hf; cases r with | cons r1 rs => cases rs; cases r1; exact .inr (.inl ⟨_, rfl, hq _ H [] (Ex.refl H) (.str _) KdOk.nil⟩)
  · split at hf
    · rename_i h; cases hf; cases r with | cons r1 rs => cases rs; cases r1; exact .inr (.inr (.inl ⟨_, rfl, of_decide_eq_true h, hq _ H [] (Ex.refl H) (.str _) KdOk.nil⟩))
    · cases hf
  · cases hf; cases r with | cons r1 rs => cases rs; cases r1; exact .inr (.inr (.inr (.inl ⟨_, rfl, hq _ H [] (Ex.refl H) (.str _) KdOk.nil⟩)))
  · split at hf
    · rename_i h; cases hf; cases r with
      | cons r1 rs =>
        cases rs
        have r1' := r1
        cases r1
        exact ref r1' h (hq _ H [] (Ex.refl H) (.str _) KdOk.nil)
    · cases hf
  · split at hf
    · rename_i h; cases hf; cases r with
      | cons r1 rs =>
        cases rs
        have r1' := r1
        cases r1
        exact ref r1' h (hq _ H [] (Ex.refl H) (.str _) KdOk.nil)
    · cases hf
  · cases hf
end CB

namespace CB
open PySem L2 PySem.Spec PyProof.Rows
variable [CT]
/-! ### a def that calls itself: nothing is known at depth 0 -/
theorem Defd.cal0 {P : Program} {w : World} {K : PySem.W.Frag} {mg : Str → Option Value} {base : Heap} {x : Str} {st : Stmt} {k : Nat} {ps : List Str} (D : Defd K mg x st)
    (h : ∀ (kV doc pm : Value) (an : Option Addr) (cdv ct : Value) (us : List Value), us.length = ps.length → bindArgs (PySem.W.fnOf x x (defArgs st) (defBody st) (defScope st) .none kV doc pm an cdv ct) ⟨us, []⟩ = pure (ps.zip us)) :
    Cal P w K mg base x k ps (spF ps.length mg fun _ => .no) := by
  obtain ⟨f, fd, F, hm⟩ := D
  exact ⟨f, fd, ⟨fun xs H Q E z => z.1, fun _ _ _ _ z => (let ⟨_, _, _, _, y⟩ := z; (show False from y).elim)⟩, hm, F.kp, F.binds h⟩
end CB

namespace CB
open PySem L2 PySem.Spec PyProof.Rows
variable [CT]
/-! ### a thing made of owned temporaries owns their parts -/
section
variable {M N : Addr → Prop} {fx : Addr → HO → Prop} {pin : Nat → Option V} {φ : Lab} {H H' : Hp} {env : Env} {σ : L2.St}
theorem Good.pushL {ts ws : List Tmp} {d : D} {v : V} {cs : List Addr} (g0 : Good M N fx pin φ H env σ (ts ++ ws)) (e : Ex H H') (r : Rep H' d v cs) (hn : cs.Nodup) (hc : ∀ a ∈ cs, H a = none ∨ (M a ∧ ∃ j, ts.length ≤ j ∧ φ a = some (.tmp j))) :
    ∃ φ', Good M N fx pin φ' H' env σ (ts ++ [(true, d, v)]) := by
  have g := g0.ext e
  have out : ∀ {a : Addr}, a ∈ cs → φ a = none → H a = none := fun {a} ha z => by
    rcases hc a ha with h | ⟨_, j, _, h⟩
    · exact h
    · rw [z] at h; cases h
  have kp : ∀ {l : Lb} {o : Bool} {d : D} {v : V}, (∀ j, l = .tmp j → j < ts.length) → Held φ H M l o d v → Held (fun b => if b ∈ cs then some (.tmp ts.length) else unT ts.length φ b) H' M l o d v := fun {l o d v} hl k => k.keep fun bs rb q => ⟨rb.mono e, fun a ha => by
    have hno : a ∉ cs := fun z => by
      rcases hc a z with h | ⟨_, j, hj, h⟩
      · exact rb.ne a ha h
      · have := q a ha
        rw [h] at this
        cases o with
        | true => simp at this; have := hl j this.symm; omega
        | false => cases this
    show (if a ∈ cs then some (.tmp ts.length) else unT ts.length φ a) = _
    rw [if_neg hno]
    exact unT_keep (q a ha) fun j ej => by
      cases o with
      | true => simp at ej; exact hl j ej
      | false => cases ej⟩
  refine ⟨fun b => if b ∈ cs then some (.tmp ts.length) else unT ts.length φ b, ⟨g.len, fun a o h => ⟨(g.fix a o h).1, ?_⟩, fun a h => ?_, g.free, fun i s h => (g0.slot i s h).keep fun o d v k => kp (fun j z => nomatch z) k, fun j t h => ?_⟩⟩
  · have hno : a ∉ cs := fun z => by
      have h0 := g0.fix a o h
      have := out z h0.2
      rw [h0.1] at this; cases this
    show (if a ∈ cs then some (.tmp ts.length) else unT ts.length φ a) = _
    rw [if_neg hno]
    exact unT_keep (g.fix a o h).2 fun j ej => nomatch ej
  · by_cases ha : a ∈ cs
    · rcases hc a ha with z | ⟨_, j, _, z⟩
      · exact ⟨(g0.fresh z).1, r.there a ha⟩
      · exact g.own a (by rw [z]; exact fun y => nomatch y)
    · refine g.own a (unT_some (n := ts.length) fun z => h ?_)
      show (if a ∈ cs then some (.tmp ts.length) else unT ts.length φ a) = _
      rw [if_neg ha]; exact z
  · by_cases hj : j < ts.length
    · rw [List.getElem?_append_left hj] at h
      exact kp (fun i z => by cases z; exact hj) (g0.tmp j t (by rw [List.getElem?_append_left hj]; exact h))
    · have hj' : j = ts.length := by
        have := (List.getElem?_eq_some_iff.mp h).1
        simp at this; omega
      subst hj'
      simp at h
      subst h
      refine ⟨cs, r, fun a ha => ?_, fun a ha => ?_, fun _ => hn⟩
      · rcases hc a ha with z | ⟨z, _⟩
        · exact (g0.fresh z).2
        · exact z
      · show (if a ∈ cs then some (.tmp ts.length) else unT ts.length φ a) = _
        rw [if_pos ha]; rfl
def ownU : List U → Bool
  | [] => true
  | .t o d :: us => gfl o d && ownU us
  | .v _ :: _ => false
theorem Vm.owns {us : List U} {vs : List V} {ws : List Tmp} (h : Vm σ us vs ws) : ∀ {ts : List Tmp} {ds : List D}, Good M N fx pin φ H env σ (ts ++ ws) → ownU us = true → valsU env us = some ds → ∃ as, Reps H ds vs as ∧ as.Nodup ∧ ∀ a ∈ as, M a ∧ ∃ j, ts.length ≤ j ∧ φ a = some (.tmp j) := by
  induction h with
  | nil => intro ts ds g _ e; cases e; exact ⟨[], .nil, List.nodup_nil, fun a h => nomatch h⟩
  | @t o d v us vs ws hv ih =>
    intro ts ds g hu e
    simp only [ownU, Bool.and_eq_true] at hu
    simp only [valsU] at e
    cases e2 : valsU env us with
    | none => rw [e2] at e; cases e
    | some es =>
      rw [e2] at e; cases e
      obtain ⟨bs, rb, nb, lb⟩ := ih (ts := ts ++ [(o, d, v)]) (by simpa using g) hu.2 e2
      obtain ⟨as, ra, ma, la, na⟩ := g.tmp ts.length (o, d, v) (by simp)
      obtain ⟨as, ra, na, la⟩ : ∃ as, Rep H d v as ∧ as.Nodup ∧ ∀ a ∈ as, M a ∧ φ a = some (.tmp ts.length) := by
        cases o with
        | true => exact ⟨as, ra, na rfl, fun a ha => ⟨ma a ha, la a ha⟩⟩
        | false =>
          have z := ra.noL (by simpa [gfl] using hu.1)
          subst z
          exact ⟨[], ra, List.nodup_nil, noMem⟩
      refine ⟨as ++ bs, .cons ra rb, List.nodup_append.mpr ⟨na, nb, fun a ha b hb eq => ?_⟩, fun a ha => ?_⟩
      · subst eq
        obtain ⟨_, j, hj, z⟩ := lb a hb
        rw [(la a ha).2] at z
        cases z
        rw [List.length_append, List.length_singleton] at hj; omega
      · rcases List.mem_append.mp ha with z | z
        · exact ⟨(la a z).1, _, Nat.le_refl _, (la a z).2⟩
        · obtain ⟨m, j, hj, y⟩ := lb a z
          exact ⟨m, j, by rw [List.length_append] at hj; omega, y⟩
  | @v i v us vs ws hi hv ih => intro ts ds g hu; cases hu
end
def linG (f : List D → Option (Kd × D)) (ms : List GA) : GE := fun env => match argsG ms env with
  | .ok us env1 => if ownU us then match valsU env1 us with
      | some ds => match f ds with
        | some (.ali, d) => if noL d then .ok true d env1 else .no
        | some (_, d) => .ok true d env1
        | none => .no
      | none => .no
    else .no
  | .ex x e => .ex x e
  | .no => .no
section
variable {X : Cx} {E : XK}
theorem linG_read {r : List V → Hp → VK → Prop} {f : List D → Option (Kd × D)} (hv : VN r f) (ms : List GA) {M N : Addr → Prop} {fx : Addr → HO → Prop} {pin : Nat → Option V} {env : Env} {σ : L2.St} {ts : List Tmp} {Q : VK} (w : GWant M N fx pin X.mg σ ts E Q (linG f ms env)) :
    GAWant M N fx pin X.mg σ ts E (fun vs H => r vs H Q) (argsG ms env) := by
  unfold linG at w
  cases ha : argsG ms env with
  | no => rw [ha] at w; exact w
  | ex x e => rw [ha] at w; exact w
  | ok us env1 =>
    rw [ha] at w
    intro φ H vs ws hvm g
    simp only at w
    split at w
    · rename_i hu
      cases e1 : valsU env1 us with
      | none => rw [e1] at w; exact w.elim
      | some ds =>
        rw [e1] at w
        simp only at w
        obtain ⟨as, ra, na, la⟩ := hvm.owns g hu e1
        cases e2 : f ds with
        | none => rw [e2] at w; exact w.elim
        | some kd =>
          obtain ⟨k, d⟩ := kd
          rw [e2] at w
          refine hv H ds vs as k d Q ra e2 fun u H' cs e r ko => ?_
          cases k with
          | ali =>
            simp only at w
            split at w
            · rename_i hl
              obtain ⟨φ', g'⟩ := g.pushL e r (by rw [r.noL hl]; exact List.nodup_nil) (by rw [r.noL hl]; exact fun a h => nomatch h)
              exact w _ _ _ g'
            · exact w.elim
          | new =>
            have nw : New H cs := ko.2
            obtain ⟨φ', g'⟩ := g.pushL e r nw.1 fun a h => .inl (nw.2 a h)
            exact w _ _ _ g'
          | lin =>
            obtain ⟨φ', g'⟩ := g.pushL e r (ko.2 na) fun a h => (ko.1 a h).imp id (la a)
            exact w _ _ _ g'
    · exact w.elim
theorem two_lin {e1 e2 : Expr} {m1 m2 : GA} {r : R2} {f : D → D → Option (Kd × D)} (hv : V2 r f) (h1 : SndGA X E e1 m1) (h2 : SndGA X E e2 m2) : ∃ ta tb, PE X e1 ta ∧ PE X e2 tb ∧ ∀ M N fx pin φ H env σ ts Q, Good M N fx pin φ H env σ ts → GWant M N fx pin X.mg σ ts E Q (linG (opf f) [m1, m2] env) → ta σ H fun x H1 => tb σ H1 fun y H2 => r x y H2 Q := by
  obtain ⟨ta, tb, a1, b1, h⟩ := two_read h1 h2
  refine ⟨ta, tb, a1, b1, fun M N fx pin φ H env σ ts Q g w => h M N fx pin φ H env σ ts _ g ?_⟩
  have := linG_read (r := fun vs H Q => ∃ v w, vs = [v, w] ∧ r v w H Q) (f := opf f) (E := E) (fun H ds vs as k d Q ra hf hq => ?_) [m1, m2] w
  · exact this
  · unfold opf at hf
    split at hf
    · rename_i x y
      cases ra with
      | cons r1 rs => cases rs with
        | cons r2 rs =>
          cases rs
          refine ⟨_, _, rfl, hv H _ _ _ _ _ _ k d Q r1 r2 hf ?_⟩
          simpa using hq
    · cases hf
theorem snde_lin2 {op : Operator} {e1 e2 : Expr} {m1 m2 : GA} {r : R2} {f : D → D → Option (Kd × D)} {pos : Pos} (ho : OpR X (binaryOp op) r) (hv : V2 r f) (h1 : SndGA X E e1 m1) (h2 : SndGA X E e2 m2) : SndE X E (.BinOp e1 op e2 pos) (linG (opf f) [m1, m2]) := by
  obtain ⟨ta, tb, a1, b1, h⟩ := two_lin hv h1 h2
  exact ⟨_, pe_op ho a1 b1, h⟩
theorem snde_linIx {e1 e2 : Expr} {m1 m2 : GA} {r : R2} {f : D → D → Option (Kd × D)} {pos : Pos} (ho : IxR X r) (hv : V2 r f) (h1 : SndGA X E e1 m1) (h2 : SndGA X E e2 m2) (hm : PlainIx e2 := by intro _ _; rfl) : SndE X E (.Subscript e1 e2 pos) (linG (opf f) [m1, m2]) := by
  obtain ⟨ta, tb, a1, b1, h⟩ := two_lin hv h1 h2
  exact ⟨_, pe_ix ho a1 b1 hm, h⟩
theorem snde_linL {es : List Expr} {ms : List GA} {pos : Pos} (h : SndAG X E es ms) : SndE X E (.List es pos) (linG dLst ms) := by
  obtain ⟨t, h1, h2⟩ := h
  exact ⟨_, pe_lst h1, fun M N fx pin φ H env σ ts Q g w => h2 M N fx pin φ H env σ ts _ g (linG_read v_lst ms w)⟩
theorem snde_linT {es : List Expr} {ms : List GA} {k : Nat} {pos : Pos} (h : SndAG X E es ms) : SndE X E (.Tuple es k pos) (linG dTup ms) := by
  obtain ⟨t, h1, h2⟩ := h
  exact ⟨_, pe_tupF h1, fun M N fx pin φ H env σ ts Q g w => h2 M N fx pin φ H env σ ts _ g (linG_read v_tup ms w)⟩
end
/-! ### == of texts, whatever their signs -/
def dEqS : D → D → Option (Kd × D)
  | .str a, .str b => some (.new, .bl (a == b))
  | _, _ => none
def dNeS : D → D → Option (Kd × D)
  | .str a, .str b => some (.new, .bl (!(a == b)))
  | _, _ => none
theorem v_eqS : V2 rEq dEqS := by
  intro H x y v w as bs k d Q r1 r2 hf hq
  unfold dEqS at hf
  split at hf
  · cases hf; cases r1; cases r2
    refine ⟨rfl, ?_⟩
    rw [dec_str]
    exact hq _ H [] (Ex.refl H) (.bl _) KdOk.nil
  · cases hf
theorem v_neS : V2 rNe dNeS := by
  intro H x y v w as bs k d Q r1 r2 hf hq
  unfold dNeS at hf
  split at hf
  · cases hf; cases r1; cases r2
    refine ⟨rfl, ?_⟩
    rw [dec_str]
    exact hq _ H [] (Ex.refl H) (.bl _) KdOk.nil
  · cases hf
end CB

namespace CB
open PySem L2 PySem.Spec PyProof.Rows
/-! ### tuple(reversed(range(..))) -/
theorem ri_nolen : typeLookup (.type "range_iterator") "__len__" = pure none := by rw [typeLookup_type, builtinLookup_eq_fast]; kernel_rfl
theorem ri_hint : typeLookup (.type "range_iterator") "__length_hint__" = pure (some (.builtin "range_iterator.__length_hint__")) := by rw [typeLookup_type, builtinLookup_eq_fast]; kernel_rfl
theorem ri_slot : Slot "range_iterator" "__length_hint__" "range_iterator.__length_hint__" :=
  Slot.of (n := "__length_hint__") (owner := "range_iterator") ri_hint (by decide +kernel) (by decide +kernel) (by decide +kernel) (by first | exact .inl (by decide +kernel) | exact .inr (by decide +kernel)) (by rw [isSubtype_type]; kernel_rfl)
theorem ri_entry : entryFor table "range_iterator.__length_hint__" = some Builtin.«range_iterator.__length_hint__» := entryFor_of_tree (by kernel_rfl)
theorem ri_owner : Manifest.owners.lookup (String.ofList ['r', 'o', 't', 'a', 'r', 'e', 't', 'i', '_', 'e', 'g', 'n', 'a', 'r'].reverse) = some Manifest.sig_range_iterator := by kernel_rfl
theorem ri_args (a : Value) : argsOk "range_iterator.__length_hint__" ⟨[a], []⟩ := by
  unfold argsOk
  rw [signature?_of (id := "range_iterator.__length_hint__") (n := "__length_hint__".toList.reverse) (o := ['r', 'o', 't', 'a', 'r', 'e', 't', 'i', '_', 'e', 'g', 'n', 'a', 'r']) (by kernel_rfl) ri_owner]
  kernel_rfl
theorem call_ri_hint {pg : Program} {w : World} {A : Around} {E : Value → Shared → Prop} {s : Shared} {it : Addr} {x c : Int} {n : Nat} {Q : Value → Shared → Prop} (hit : IsRangeIter s.heap it x n c) (h : Q (.int n s.toks) { s with toks := s.toks + 1 }) : wpAny (model pg w) A (call (.builtin "range_iterator.__length_hint__") [.ref it]) Q E s := by
  refine wpAny_call_entry ri_slot ⟨_, hit, rfl⟩ ri_entry ?_ (ri_args _)
  unfold Builtin.«range_iterator.__length_hint__»
  refine wpAny_bind (wpAny_of_eq (a := Value.ref it) rfl (wpAny_bind (wpAny_field hit rfl (x := rawInt n) rfl ?_)))
  exact wpAny_bind (wpAny_mkInt (wpAny_pure ⟨_, rfl, h⟩))
abbrev noO : Obj := { cls := .type "list", data := .seq ([] : List Value).toArray }
section
variable {pg : Program} {w : World} {A : Around} {E : Value → Shared → Prop} {s : Shared}
theorem gather_ri {it : Addr} {x c : Int} {n : Nat} {Q : List Value → Shared → Prop} (hh : A.handled = none) (hit : IsRangeIter s.heap it x n c) (hn : n ≤ sizeLine)
    (hQ : ∀ (g : Heap) (tk : Nat) (acc : Array Value), (∀ b o, b ≠ it → s.heap.get? b = some o → g.get? b = some o) → ItemsOf (fun i v => ∃ t, v = .int (x + i * c) t) acc n → Q acc.toList { s with heap := g, toks := tk }) :
    wpAny (model pg w) A (collect (.ref it)) Q E s := by
  have W := (Walks.range (prog := pg) (w := w) (A := A.in1) hh it x c n).toS
  have ne : s.heap.objs.size ≠ it := Nat.ne_of_gt (Heap.lt_size hit)
  have nf : s.heap.objs.size ∉ [it] := fun z => ne (List.mem_singleton.mp z)
  have h0 : (s.heap.push noO).get? s.heap.objs.size = some noO := Heap.get?_push_size _ rfl
  have h1 : IsRangeIter (s.heap.push noO) it x n c := Heap.get?_push_of_some _ hit
  have ty : ({ s with heap := s.heap.push noO } : Shared).TypeIs (.ref it) "range_iterator" := ⟨_, h1, rfl⟩
  have sm : Builtin.List.listSameRef (.ref s.heap.objs.size) (.ref it) = false := by simp [Builtin.List.listSameRef, ne]
  unfold collect
  refine wpAny_bind (wpAny_runValue (codeAny_builtin F.entry_proto_collect (by
    rw [Around.under_plainId F.plain_proto_collect _]
    show wpAny _ A.in1 (newList [] >>= fun y => again (.builtin "list.__iadd__" ⟨[y, .ref it], []⟩)) _ _ s
    refine wpAny_bind (wpAny_newObj_type (wpAny_pure ⟨plainId_quiet F.plain_list_iadd _, codeAny_builtin F.entry_list_iadd ?_⟩))
    rw [Around.under_plainId F.plain_list_iadd _]
    show wpAny _ A.in1 (Builtin.List.listExtendWith (.ref s.heap.objs.size) (.ref it) (.ref s.heap.objs.size)) _ _ { s with heap := s.heap.push noO }
    unfold Builtin.List.listExtendWith
    refine wpAny_bind (wpAny_typeOf ty ?_)
    rw [if_neg (by rw [sm]; decide)]
    refine wpAny_bind (wpAny_pyIter_rangeiter (s := { s with heap := s.heap.push noO }) h1 (wpAny_bind (wpAny_holding ?_)))
    unfold Builtin.List.listLengthHint
    refine wpAny_bind (wpAny_specialOf ty ri_nolen ?_)
    show wpAny _ A.in1 (specialOf (Value.ref it) (Str.ofString "__length_hint__") >>= _) _ _ { s with heap := s.heap.push noO }
    refine wpAny_bind (wpAny_specialOf ty ri_hint ?_)
    generalize hid : ("range_iterator.__length_hint__" : String) = nm
    wp_delta
    rw [show splitId nm = some ("range_iterator", "__length_hint__") from by subst hid; decide +kernel]
    subst hid
    refine wpAny_bind (wpAny_isInstance (b := true) ty (by rw [isSubtype_type]; kernel_rfl) ?_)
    refine wpAny_ite_split (fun z => absurd z (by decide)) fun _ => wpAny_ite_split (fun _ => ?_) fun z => absurd (by decide +kernel) z
    refine wpAny_ite_split (fun _ => ?_) fun z => absurd (by decide) z
    refine wpAny_bind (call_ri_hint (s := { s with heap := s.heap.push noO }) h1 ?_)
    refine wpAny_bind (m := asInt? _) (wpAny_pure ?_)
    have tl : Builtin.List.listTooLong ((n : Int).toNat) = false := by simp [Builtin.List.listTooLong]; omega
    refine wpAny_ite_split (fun z => absurd z (by rw [tl]; decide)) fun _ => wpAny_pure ?_
    rw [if_neg (by decide)]
    have e0 : x + ((0 : Nat) : Int) * c = x := by simp
    have e1 : (n : Int) - ((0 : Nat) : Int) = n := by simp
    refine wpAny_pure ⟨plainId_quiet F.plain_extend_loop _, codeAny_extend_loopS W hn _ nf _ n 0 _ _ _ rfl (Nat.zero_le _) (by rw [e0, e1]; exact h1) h0 (ItemsOf.nil _) fun s' acc c' hm hS' hacc => ?_⟩
    show wpAny _ A (load s.heap.objs.size >>= _) _ _ s'
    refine wpAny_bind (wpAny_load hS' (wpAny_pure ?_))
    rw [Moved.eq_with hm]
    refine hQ s'.heap s'.toks acc (fun b o hb e => hm.heap b o (fun y => ?_) (Heap.get?_push_of_some _ e)) hacc
    rcases List.mem_cons.mp y with z | z
    · exact absurd (Heap.lt_size e) (by rw [z]; exact Nat.lt_irrefl _)
    · exact hb (List.mem_singleton.mp z))))
theorem new_tuple_ri {it : Addr} {x c : Int} {n : Nat} {Q : Value → Shared → Prop} (hh : A.handled = none) (hit : IsRangeIter s.heap it x n c) (hn : n ≤ sizeLine)
    (h : ∀ (g : Heap) (tk : Nat) (acc : Array Value), (∀ b o, b ≠ it → s.heap.get? b = some o → g.get? b = some o) → ItemsOf (fun i v => ∃ t, v = .int (x + i * c) t) acc n → Q (.ref g.objs.size) { s with heap := g.push { cls := .type "tuple", data := .seq acc }, toks := tk }) :
    codeAny (model pg w) A (.call (.builtin "tuple.__new__") ⟨[.type "tuple", .ref it], []⟩) (wants Q E) s := by
  refine codeAny_of_tree ?_
  show wpAny _ A.in1 (do checkBuiltinCall "tuple.__new__" ⟨[.type "tuple", .ref it], []⟩; again (.builtin "tuple.__new__" ⟨[.type "tuple", .ref it], []⟩)) _ _ s
  refine wpAny_bind (wpAny_of_eq (F.newCall_tuple_1 _) (wpAny_pure ⟨plainId_quiet F.plain_tuple_new _, codeAny_builtin F.entry_tuple_new (by
    rw [Around.under_plainId F.plain_tuple_new _]
    have q1 := sub_tuple_self
    have q2 := init_tuple_lookup
    have q3 := madeHere_tuple
    have ty : s.TypeIs (.ref it) "range_iterator" := ⟨_, hit, rfl⟩
    have hd : A.in1.handled = none := hh
    wp_walk using wpAny_typeOf ty, gather_ri (A := A.in1) hd hit hn
    intro g tk acc hk hacc
    show wpAny _ _ (Builtin.Tuple.tupleExact acc.toList.toArray >>= fun v => ret v) _ _ { s with heap := g, toks := tk }
    unfold Builtin.Tuple.tupleExact
    have e : acc.toList.toArray = acc := by simp
    refine wpAny_bind (wpAny_newObj_type (wpAny_pure ?_) (by rw [e]; show acc.size ≤ sizeLine; rw [hacc.1]; exact hn))
    rw [e]
    exact h g tk acc hk hacc)⟩))
theorem tuple_ri {it : Addr} {x c : Int} {n : Nat} {Q : Value → Shared → Prop} (hh : A.handled = none) (hit : IsRangeIter s.heap it x n c) (hn : n ≤ sizeLine)
    (h : ∀ (g : Heap) (tk : Nat) (acc : Array Value), (∀ b o, b ≠ it → s.heap.get? b = some o → g.get? b = some o) → ItemsOf (fun i v => ∃ t, v = .int (x + i * c) t) acc n → Q (.ref g.objs.size) { s with heap := g.push { cls := .type "tuple", data := .seq acc }, toks := tk }) :
    wpAny (model pg w) A (call (.type "tuple") [.ref it]) Q E s :=
  callType_codes (Q₁ := fun ob s1 => s1.TypeIs ob "tuple" ∧ Q ob s1) F.called_tuple (F.typeCall_tuple_1 _) F.entry_object_init
    (new_tuple_ri (A := A.in1) hh hit hn fun g tk acc hk hacc => ⟨⟨_, Heap.get?_push_size _ rfl, rfl⟩, h g tk acc hk hacc⟩) fun ob s1 z =>
      ⟨z.1, F.args_object_init_2 ob _, object_init_meets F.called_tuple.init.lookup F.called_tuple.made (by decide) pg w A.in1 _ s1 ⟨z.1, rfl, z.2⟩⟩
end
theorem rev_vals {a : Int} {n : Nat} {acc : Array Value} (h : ItemsOf (fun i v => ∃ t, v = .int (a + (n : Int) - 1 + i * -1) t) acc n) : Vals ((List.range n).map fun (i : Nat) => V.int (a + (n : Int) - 1 - i)) acc.toList := by
  have hl : acc.toList.length = n := by rw [Array.length_toList]; exact h.1
  have := vals_of_get acc.toList (fun (i : Nat) => V.int (a + (n : Int) - 1 - i)) fun j u e => by
    obtain ⟨t, rfl⟩ := h.2 j u (by rw [← Array.getElem?_toList]; exact e)
    exact ⟨t, by congr 1; omega⟩
  rw [hl] at this
  exact this
variable [CT]
section
variable {X : Cx} {E : XK}
def tTupRR (te : L2.St → Hp → (Int → Int → Hp → Prop) → Prop) : TE := fun σ H Q => te σ H fun a b H1 => RgOk a b ∧ NewT ((List.range (b - a).toNat).map fun (i : Nat) => V.int (a + ((b - a).toNat : Int) - 1 - i)) H1 Q
theorem pe_tupRR {e : Expr} {te : L2.St → Hp → (Int → Int → Hp → Prop) → Prop} {p p2 pos pos2 : Pos} (hc : X.calm = true) (hg : Gl X "tuple") (hm : X.mg "tuple" = none) (hg2 : Gl X "reversed") (hm2 : X.mg "reversed" = none) (he : PRg X e te)
    (na : starEach [e] X.env = (false, eval e X.env) :: starEach [] X.env) (nb : starEach [.Call (.Name "reversed" p2) [e] [] pos2] X.env = (false, eval (.Call (.Name "reversed" p2) [e] [] pos2) X.env) :: starEach [] X.env) : PE X (.Call (.Name "tuple" p) [.Call (.Name "reversed" p2) [e] [] pos2] [] pos) (tTupRR te) := by
  refine ⟨fun pins s σ H Q I h => Call_ (ld_blt I hg hm boot_tuple (PyProof.Rows.callWith_type1 (args_cons (?_ : wpAny _ _ _ _ _ _) nb) nb))⟩
  refine Call_ (ld_blt I hg2 hm2 PyProof.Rows.boot_reversed (PyProof.Rows.callWith_type1 (args_cons (thn (he pins s σ H _ I h) fun u s1 ⟨r, a, b, t, w1, v, H1, eu, hr, I1, ok, q⟩ => args_nil ?_) na) na rfl))
  subst eu
  obtain ⟨b1, b2, b3, b4, b5⟩ := ok
  have hn : Builtin.Range.rangeSize a b 1 = (((b - a).toNat : Nat) : Int) := rangeSize_nat a b
  refine call_reversed_range hr (smallRev_one b1 b2 b3 b4) (args_nil ?_)
  have hit : IsRangeIter (s1.heap.push { cls := .type "range_iterator", data := .fields #[rawInt (a + (Builtin.Range.rangeSize a b 1 - 1) * 1), rawInt (Builtin.Range.rangeSize a b 1), rawInt (-1)] }) s1.heap.objs.size (a + (((b - a).toNat : Nat) : Int) - 1) (((b - a).toNat : Nat) : Int) (-1) := by
    have e1 : a + (((b - a).toNat : Nat) : Int) - 1 = a + (Builtin.Range.rangeSize a b 1 - 1) * 1 := by rw [hn]; omega
    show IsRangeIter _ _ _ _ _
    rw [e1, ← hn]
    exact Heap.get?_push_size _ rfl
  have I2 := I1.kept (t' := s1.toks) (h' := s1.heap.push { cls := .type "range_iterator", data := .fields #[rawInt (a + (Builtin.Range.rangeSize a b 1 - 1) * 1), rawInt (Builtin.Range.rangeSize a b 1), rawInt (-1)] }) fun b o e => Heap.get?_push_of_some _ e
  have hz : (b - a).toNat ≤ sizeLine := by rw [sizeLine_eq]; omega
  refine tuple_ri (s := { s1 with heap := s1.heap.push { cls := .type "range_iterator", data := .fields #[rawInt (a + (Builtin.Range.rangeSize a b 1 - 1) * 1), rawInt (Builtin.Range.rangeSize a b 1), rawInt (-1)] } }) (I1.ok.hd hc) hit hz fun g tk acc hk hacc => ?_
  have I3 : L2.Inv X pins σ H1 { s1 with heap := g, toks := tk } := I1.kept fun b o e => hk b o (Nat.ne_of_lt (Heap.lt_size e)) (Heap.get?_push_of_some _ e)
  have I4 := Inv.tupF (s := { s1 with heap := g, toks := tk }) I3 (rev_vals hacc) (by rw [List.length_map, List.length_range]; exact hz)
  rw [Array.toArray_toList] at I4
  exact ⟨.ref g.objs.size, _, I4, rfl, q _ _ (I3.hok.fresh (Nat.le_refl _)) rfl⟩
def tupRR (q : Env → Option (Int × Int)) : P := fun env => match q env with
  | some (i, j) => if rgOkB i j then .ok true (.tup (rgD i (j - i).toNat).reverse) else .no
  | none => .no
theorem rev_reps (H : Hp) (i : Int) : ∀ n : Nat, Reps H (rgD i n).reverse ((List.range n).map fun (k : Nat) => V.int (i + (n : Int) - 1 - k)) []
  | 0 => .nil
  | n + 1 => by
    have e1 : (rgD i (n + 1)).reverse = .int (i + n) :: (rgD i n).reverse := by
      unfold rgD
      rw [List.range_succ, List.map_append, List.reverse_append]; rfl
    have e2 : ((List.range (n + 1)).map fun (k : Nat) => V.int (i + ((n + 1 : Nat) : Int) - 1 - k)) = .int (i + n) :: (List.range n).map fun (k : Nat) => V.int (i + (n : Int) - 1 - k) := by
      rw [List.range_succ_eq_map, List.map_cons, List.map_map]
      congr 1
      · congr 1; omega
      · refine List.map_congr_left fun k _ => ?_
        show V.int _ = V.int _
        congr 1; omega
    rw [e1, e2]
    exact .cons (as := []) (bs := []) (.int _) (rev_reps H i n)
theorem snd_tupRR {e : Expr} {q : Env → Option (Int × Int)} {p p2 pos pos2 : Pos} (hc : X.calm = true) (h : SndR X E e q) (hg : Gl X "tuple") (hm : X.mg "tuple" = none) (hg2 : Gl X "reversed") (hm2 : X.mg "reversed" = none)
    (na : starEach [e] X.env = (false, eval e X.env) :: starEach [] X.env := by rfl) (nb : starEach [.Call (.Name "reversed" p2) [e] [] pos2] X.env = (false, eval (.Call (.Name "reversed" p2) [e] [] pos2) X.env) :: starEach [] X.env := by rfl) : SndP X E (.Call (.Name "tuple" p) [.Call (.Name "reversed" p2) [e] [] pos2] [] pos) (tupRR q) := by
  obtain ⟨t, h1, h2⟩ := h
  refine ⟨_, pe_tupRR hc hg hm hg2 hm2 h1 na nb, fun S env σ H Q o w => ?_⟩
  unfold tupRR at w
  cases hq : q env with
  | none => rw [hq] at w; exact w.elim
  | some ij =>
    obtain ⟨i, j⟩ := ij
    rw [hq] at w
    simp only at w
    split at w
    · rename_i hz
      exact h2 S env σ H _ i j o hq fun H' e => ⟨rgOkB_ok hz, fun p ob hp hd => w _ _ [] (e.trans (Ex.new hp)) (.newT hp hd (rev_reps H' i _)) noMem fun _ => .nil H⟩
    · exact w.elim
end
end CB

namespace CB
open PySem L2 PySem.Spec PyProof.Rows
variable [CT]
/-! ### for x in NAME: x.append(E), where NAME's own list holds lists of its own -/
def appD (d : D) : D → D
  | .lst zs => .lst (zs ++ [d])
  | x => x
def appOk : D → Bool
  | .lst zs => szOk zs.length
  | _ => false
def forApp (i j : Nat) (q : P) : SM := fun env => match env[i]? with
  | some (.val true (.lst xs)) => match q ((env.set i .emp).set j .emp) with
    | .ok _ d => if noL d && xs.all appOk && decide (i ≠ j) && decide (j < env.length) then .nx ((env.set i (.val true (.lst (xs.map (appD d))))).set j .emp) else .no
    | _ => .no
  | _ => .no
section
variable {M N : Addr → Prop} {fx : Addr → HO → Prop} {pin : Nat → Option V} {φ : Lab} {H H' : Hp} {env : Env} {σ : L2.St} {ts : List Tmp}
theorem Good.toEmp (g : Good M N fx pin φ H env σ ts) (i : Nat) : Good M N fx pin φ H (env.set i .emp) σ ts where
  len := by have := g.len; unfold Lens at *; rw [List.length_set]; exact this
  fix := g.fix
  own := g.own
  free := g.free
  slot := fun k s h => by
    by_cases hk : k = i
    · subst hk
      have hl : k < env.length := by have := (List.getElem?_eq_some_iff.mp h).1; rwa [List.length_set] at this
      rw [List.getElem?_set_self hl] at h
      cases h; trivial
    · rw [List.getElem?_set_ne (Ne.symm hk)] at h
      exact g.slot k s h
  tmp := g.tmp
theorem Good.rebind (g : Good M N fx pin φ H env σ ts) {j : Nat} {v : V} (h : ∀ s, env[j]? = some s → s = .emp) : Good M N fx pin φ H env (σ.set j (some v)) ts where
  len := by have := g.len; unfold Lens at *; rw [List.length_set]; exact this
  fix := g.fix
  own := g.own
  free := g.free
  slot := fun k s hs => by
    by_cases hk : k = j
    · subst hk; rw [h s hs]; trivial
    · rw [List.getElem?_set_ne (Ne.symm hk)]; exact g.slot k s hs
  tmp := g.tmp
/-- what only a hidden slot owns may change -/
theorem Good.mutHid (g : Good M N fx pin φ H env σ ts) {i : Nat} (hi : ∀ s, env[i]? = some s → s = .emp) {b : Addr} {ws ws' : List V} (hb : φ b = some (.slot i)) (hH : H b = some (.lst ws)) : Good M N fx pin φ (L2.upd H b (.lst ws')) env σ ts := by
  have kp : ∀ {l : Lb} {o : Bool} {d : D} {v : V}, l ≠ .slot i → Held φ H M l o d v → Held φ (L2.upd H b (.lst ws')) M l o d v := fun {l o d v} hl k => k.keep fun as r q => ⟨r.keep fun a u ha hi => by
    have : a ≠ b := fun z => by
      subst z
      rcases hi with z | z
      · have := q a z
        rw [hb] at this
        cases o with
        | true => simp at this; exact hl this.symm
        | false => simp at this
      · rw [hH] at ha; cases ha; cases z
    rw [upd_ne this]; exact ha, q⟩
  refine ⟨g.len, fun a o h => ?_, fun a h => ?_, g.free, fun k s hs => ?_, fun j t h => kp (fun z => nomatch z) (g.tmp j t h)⟩
  · have h1 := g.fix a o h
    have : a ≠ b := fun z => by subst z; rw [hb] at h1; cases h1.2
    exact ⟨by rw [upd_ne this]; exact h1.1, h1.2⟩
  · obtain ⟨h1, o, h2, h3⟩ := g.own a h
    by_cases e : a = b
    · subst e; exact ⟨h1, _, upd_same, rfl⟩
    · exact ⟨h1, o, by rw [upd_ne e]; exact h2, h3⟩
  · by_cases hk : k = i
    · subst hk; rw [hi s hs]; trivial
    · exact (g.slot k s hs).keep fun o d v q => kp (fun z => hk (by cases z; rfl)) q
theorem Reps.at : ∀ {xs : List D} {vs : List V} {as : List Addr} {k : Nat} {d : D}, Reps H xs vs as → xs[k]? = some d → ∃ v bs cs es, vs[k]? = some v ∧ Rep H d v bs ∧ as = cs ++ (bs ++ es) ∧ ∀ (H' : Hp) (d' : D) (bs' : List Addr), (∀ a o, H a = some o → (a ∈ cs ++ es ∨ Imm o = true) → H' a = some o) → Rep H' d' v bs' → Reps H' (xs.set k d') vs (cs ++ (bs' ++ es))
  | _, _, _, 0, _, .cons (as := as) (bs := bs) r rs, h => by
    cases h
    exact ⟨_, as, [], bs, rfl, r, by simp, fun H' d' bs' hk r' => by
      show Reps H' _ _ ([] ++ (bs' ++ bs))
      rw [List.nil_append]
      exact .cons r' (rs.keep fun a o ha hi => hk a o ha (by simpa using hi))⟩
  | _, _, _, k + 1, _, .cons (as := as) (bs := bs) r rs, h => by
    obtain ⟨v, bs1, cs, es, h1, h2, h3, h4⟩ := Reps.at rs (k := k) (by simpa using h)
    refine ⟨v, bs1, as ++ cs, es, by simpa using h1, h2, by rw [h3]; simp, fun H' d' bs' hk r' => ?_⟩
    have := h4 H' d' bs' (fun a o ha hi => hk a o ha (hi.imp_left fun z => by simp at z ⊢; rcases z with z | z <;> simp [z])) r'
    rw [List.append_assoc]
    exact .cons (r.keep fun a o ha hi => hk a o ha (hi.imp_left fun z => by simp [z])) this
  | _, _, _, _, _, .nil, h => by simp at h
end
section
variable {X : Cx} {E : XK}
def ysk (d : D) (xs : List D) (k : Nat) : List D := (xs.take k).map (appD d) ++ xs.drop k
theorem ysk_get {d : D} {xs : List D} {k : Nat} (h : k < xs.length) : (ysk d xs k)[k]? = some xs[k] := by
  unfold ysk
  rw [List.getElem?_append_right (by simp; omega)]
  simp [List.length_take, Nat.min_eq_left (Nat.le_of_lt h)]
theorem ysk_set {d : D} {xs : List D} {k : Nat} (h : k < xs.length) : (ysk d xs k).set k (appD d xs[k]) = ysk d xs (k + 1) := by
  unfold ysk
  have e1 : ((xs.take k).map (appD d)).length = k := by simp; omega
  have e2 : xs.drop k = xs[k] :: xs.drop (k + 1) := List.drop_eq_getElem_cons h
  have e3 : xs.take (k + 1) = xs.take k ++ [xs[k]] := by rw [List.take_append_getElem]
  rw [List.set_append_right _ _ (by omega), e1, Nat.sub_self, e2, List.set_cons_zero, e3, List.map_append, List.append_assoc]
  rfl
theorem snds_forApp (i j : Nat) {x y : Str} {e : Expr} {q : P} {p py p2 apos cpos epos pos : Pos} (hp : PassesOwn (model X.prog X.w) X.A X.env X.xe) (hc : X.calm = true) (hN : X.N[i]? = some x) (hv : Vis X.env.scope x) (hNj : X.N[j]? = some y) (hvy : Vis X.env.scope y) (hg : SndG X (.Name y py) (.nm j)) (h : SndP X E e q)
    (hd : (x == ("__debug__" : Str)) = false := by decide) (hcd : (x == ("__classdict__" : Str)) = false := by decide) (hdy : (y == ("__debug__" : Str)) = false := by decide) (hcdy : (y == ("__classdict__" : Str)) = false := by decide)
    (hs : ∀ z, foldedSetIterable (.Name x p) X.env z = pure z := by intro _; rfl)
    (hbase : attributeBase (.Name y p2) ("append" : Str) X.env (eval (.Name y p2) X.env) = eval (.Name y p2) X.env := by rfl)
    (hfew : ((backTo cpos (starEach [e] X.env)).all (fun x => !x.1) && (backToKw cpos (keywordEach [] X.env)).all (fun x => x.1.isSome)
      && decide (([e] : List Expr).length + ([] : List Keyword).length + (if ([] : List Keyword).isEmpty then 0 else 1) < 30)) = true := by rfl)
    (hline : (apos.endLine == cpos.line) = true := by rfl) (hse : starEach [e] X.env = (false, eval e X.env) :: starEach [] X.env := by rfl) (hplain : (backTo cpos (starEach [] X.env)).any (·.1) = false := by rfl)
    (hsw : swapsWith (.Call (.Attribute (.Name y p2) ("append" : Str) apos) [e] [] cpos) none epos.line X.env = pure false := by rfl) :
    SndS X E (.For (.Name y py) (.Name x p) [.Expr (.Call (.Attribute (.Name y p2) ("append" : Str) apos) [e] [] cpos) epos] [] pos) (forApp i j q) := by
  obtain ⟨gg, q1, q2⟩ := hg
  obtain ⟨te, e1, e2⟩ := h
  refine ⟨_, ps_for hp hc (pi_seqF (pe_var hN hv hd hcd)) q1 (pss_one (ps_expr (pe_bm PySem.F.plainAttrs_list PySem.F.slot_list_append PySem.F.type_list_append mt_append (pe_var hNj hvy hdy hcdy) (pa_cons e1 pa_nil hse) hbase hfew hline hse hplain) hsw)) hs, fun M N fx pin φ H env σ ts K g w => ?_⟩
  unfold forApp at w
  cases he : env[i]? with
  | none => rw [he] at w; exact w.elim
  | some s =>
    rw [he] at w
    cases s with
    | emp => exact (show False from w).elim
    | pin => exact (show False from w).elim
    | ref d => exact (show False from w).elim
    | val o d0 =>
      cases o with
      | false => exact (show False from w).elim
      | true =>
        cases d0 with
        | lst xs =>
          simp only at w
          cases hq : q ((env.set i .emp).set j .emp) with
          | no => rw [hq] at w; exact w.elim
          | ex z => rw [hq] at w; exact w.elim
          | ok f d =>
            rw [hq] at w
            simp only at w
            split at w
            · rename_i hz
              simp only [Bool.and_eq_true, decide_eq_true_eq] at hz
              obtain ⟨⟨⟨hz1, hz2⟩, hij⟩, hjl⟩ := hz
              obtain ⟨v0, hv0, as0, r0, m0, l0, n0⟩ := g.slot i _ he
              cases r0 with
              | @lst a vs _ as ha rs =>
                have lab : ∀ b ∈ a :: as, φ b = some (.slot i) := fun b hb => by simpa using l0 b hb
                have nd := n0 rfl
                have hna : a ∉ as := (List.nodup_cons.mp nd).1
                have hlen := rs.length
                have g' : Good M N fx pin φ H ((env.set i .emp).set j .emp) σ ts := (g.toEmp i).toEmp j
                have emi : ∀ s, ((env.set i .emp).set j .emp)[i]? = some s → s = .emp := fun s hs => by
                  rw [List.getElem?_set_ne (Ne.symm hij), List.getElem?_set_self (List.getElem?_eq_some_iff.mp he).1] at hs
                  cases hs; rfl
                have emj : ∀ s, ((env.set i .emp).set j .emp)[j]? = some s → s = .emp := fun s hs => by
                  rw [List.getElem?_set_self (by rw [List.length_set]; exact hjl)] at hs
                  cases hs; rfl
                have hjs : j < σ.length := Nat.lt_of_lt_of_le hjl g.len
                refine ⟨.ref a, hv0, a, rfl, .inl ⟨vs, SqL.of ha, ?_⟩⟩
                let St := fun (k : Nat) (σ' : L2.St) (H' : Hp) => Good M N fx pin φ H' ((env.set i .emp).set j .emp) σ' ts ∧ H' a = some (.lst vs) ∧ Reps H' (ysk d xs k) vs as ∧ σ'[i]? = some (some (.ref a)) ∧ σ'.length = σ.length
                refine ⟨fun k m σ' H' => m = xs.length - k ∧ k ≤ xs.length ∧ St k σ' H', ⟨xs.length, by simp, Nat.zero_le _, g', ha, by simpa [ysk] using rs, hv0, rfl⟩, ?_⟩
                rintro k m σ' H' ⟨rfl, hk, g1, h1, h2, h3, h4⟩
                by_cases hlt : k < xs.length
                · refine .inr ⟨⟨vs, vs[k]'(by omega), SqL.of h1, by simp⟩, St (k + 1), fun σ2 H2 hst => ⟨xs.length - (k + 1), by omega, rfl, hlt, hst⟩, fun x' H'' hy => ?_⟩
                  obtain ⟨ee, hy⟩ := hy
                  subst ee
                  have hvk := hy vs (SqL.of h1)
                  obtain ⟨v, bs, cs, es, k1, k2, k3, k4⟩ := h2.at (ysk_get (d := d) hlt)
                  rw [hvk] at k1
                  cases k1
                  have hok : appOk xs[k] = true := List.all_eq_true.mp hz2 _ (List.getElem_mem hlt)
                  refine q2 x' σ' _ xs[k] bs _ k2 trivial fun σ2 hσ2 => ?_
                  have hσ2' : σ2 = σ'.set j (some x') := hσ2
                  subst hσ2'
                  generalize hxk : xs[k] = dk at *
                  cases k2 with
                  | @lst b ws zs bs0 hb rb =>
                    have hbin : b ∈ as := by rw [k3]; simp
                    have hba : b ≠ a := fun z => hna (z ▸ hbin)
                    have g2 := g1.rebind (j := j) (v := .ref b) emj
                    refine ⟨.ref b, by rw [List.getElem?_set_self (by omega)], tyV_list hb, e2 M _ _ _ _ g2.obs ?_⟩
                    rw [hq]
                    intro v1 H1 cs1 ex1 rep1 _ _
                    have hc1 := rep1.noL hz1
                    subst hc1
                    have g3 := (g2.ext ex1).mutHid (i := i) (b := b) (ws := ws) (ws' := ws ++ [v1]) emi (lab b (List.mem_cons_of_mem _ hbin)) (ex1 b _ hb)
                    have nds : (cs ++ (b :: bs0 ++ es)).Nodup := by rw [← k3]; exact (List.nodup_cons.mp nd).2
                    have hbn : b ∉ cs ∧ b ∉ bs0 ∧ b ∉ es := by
                      have := List.nodup_append.mp nds
                      refine ⟨fun z => this.2.2 b z b (by simp) rfl, ?_, ?_⟩
                      · have h5 := (List.nodup_cons.mp (show (b :: (bs0 ++ es)).Nodup by simpa using this.2.1)).1
                        exact fun z => h5 (by simp [z])
                      · have h5 := (List.nodup_cons.mp (show (b :: (bs0 ++ es)).Nodup by simpa using this.2.1)).1
                        exact fun z => h5 (by simp [z])
                    refine ⟨b, ws, v1, rfl, rfl, ex1 b _ hb, szOk_lt (by rw [← rb.length]; exact hok), g3, ?_, ?_, ?_, by rw [List.length_set]; exact h4⟩
                    · rw [upd_ne (Ne.symm hba)]; exact ex1 a _ h1
                    · have r5 : Rep (L2.upd H1 b (.lst (ws ++ [v1]))) (.lst (zs ++ [d])) (.ref b) (b :: bs0) := by
                        refine .lst upd_same ?_
                        have r6 : Reps H1 [d] [v1] ([] ++ []) := .cons rep1 .nil
                        have r7 := (rb.mono ex1).append r6
                        simp only [List.append_nil] at r7
                        exact r7.upd (ex1 b _ hb) hbn.2.1
                      have r8 := k4 (L2.upd H1 b (.lst (ws ++ [v1]))) (.lst (zs ++ [d])) (b :: bs0) (fun a' o' ha' hi' => by
                        have : a' ≠ b := fun z => by
                          subst z
                          rcases hi' with z | z
                          · rcases List.mem_append.mp z with z | z
                            · exact hbn.1 z
                            · exact hbn.2.2 z
                          · rw [hb] at ha'; cases ha'; cases z
                        rw [upd_ne this]; exact ex1 a' _ ha') r5
                      have e9 : (ysk d xs k).set k (.lst (zs ++ [d])) = ysk d xs (k + 1) := by
                        rw [← ysk_set hlt, hxk]; rfl
                      rw [e9] at r8
                      rw [k3]; exact r8
                    · rw [List.getElem?_set_ne (Ne.symm hij)]; exact h3
                  | _ => exact (Bool.false_ne_true hok).elim
                · have hke : k = xs.length := by omega
                  subst hke
                  refine .inl ⟨⟨vs, SqL.of h1, by omega⟩, w φ H' σ' ?_⟩
                  have hys : ysk d xs xs.length = xs.map (appD d) := by simp [ysk]
                  rw [hys] at h2
                  refine ⟨by have := g1.len; unfold Lens at *; simpa using this, g1.fix, g1.own, g1.free, fun l s hs => ?_, g1.tmp⟩
                  by_cases hl : l = j
                  · subst hl
                    rw [List.getElem?_set_self (by rw [List.length_set]; exact hjl)] at hs
                    cases hs; trivial
                  · rw [List.getElem?_set_ne (Ne.symm hl)] at hs
                    by_cases hli : l = i
                    · subst hli
                      rw [List.getElem?_set_self (List.getElem?_eq_some_iff.mp he).1] at hs
                      cases hs
                      exact ⟨.ref a, h3, a :: as, .lst h1 h2, m0, fun b hb => by simpa using lab b hb, fun _ => nd⟩
                    · rw [List.getElem?_set_ne (Ne.symm hli)] at hs
                      exact g1.slot l s (by rw [List.getElem?_set_ne (Ne.symm hl), List.getElem?_set_ne (Ne.symm hli)]; exact hs)
            · exact w.elim
        | _ => exact (show False from w).elim
end
end CB

namespace CB
open PySem L2 PySem.Spec PyProof.Rows
variable [CT]
/-! ### NAME[index].append(E), where NAME's own list holds lists of its own -/
def appIxG (i : Nat) (ix q : P) : GE := fun env => match env[i]? with
  | some (.val true (.lst xs)) => match ix env with
    | .ok _ (.int k) => match ixN xs.length k with
      | some n => match xs[n]? with
        | some (.lst zs) => match q env with
          | .ok _ d => if noL d && szOk zs.length then .ok true .non (env.set i (.val true (.lst (xs.set n (.lst (zs ++ [d])))))) else .no
          | _ => .no
        | _ => .no
      | none => .no
    | _ => .no
  | _ => .no
section
variable {M N : Addr → Prop} {fx : Addr → HO → Prop} {pin : Nat → Option V} {φ : Lab} {H H' : Hp} {env : Env} {σ : L2.St} {ts : List Tmp}
/-- a hidden slot's value comes to sight again -/
theorem Good.show (g : Good M N fx pin φ H (env.set i .emp) σ ts) {d : D} {v : V} {as : List Addr} (hi : i < env.length) (hv : σ[i]? = some (some v)) (r : Rep H d v as) (m : ∀ a ∈ as, M a) (l : ∀ a ∈ as, φ a = some (.slot i)) (n : as.Nodup) : Good M N fx pin φ H (env.set i (.val true d)) σ ts := by
  refine ⟨by have := g.len; unfold Lens at *; simpa using this, g.fix, g.own, g.free, fun k s hs => ?_, g.tmp⟩
  by_cases hk : k = i
  · subst hk
    rw [List.getElem?_set_self hi] at hs
    cases hs
    exact ⟨v, hv, as, r, m, fun a ha => by simpa using l a ha, fun _ => n⟩
  · rw [List.getElem?_set_ne (Ne.symm hk)] at hs
    exact g.slot k s (by rw [List.getElem?_set_ne (Ne.symm hk)]; exact hs)
end
section
variable {X : Cx} {E : XK}
theorem snde_appIx (i : Nat) {x : Str} {e ei : Expr} {ix q : P} {p spos apos cpos : Pos} (hN : X.N[i]? = some x) (hv : Vis X.env.scope x) (hi : SndP X E ei ix) (h : SndP X E e q) (hm : PlainIx ei := by intro _ _; rfl)
    (hd : (x == ("__debug__" : Str)) = false := by decide) (hcd : (x == ("__classdict__" : Str)) = false := by decide)
    (hbase : attributeBase (.Subscript (.Name x p) ei spos) ("append" : Str) X.env (eval (.Subscript (.Name x p) ei spos) X.env) = eval (.Subscript (.Name x p) ei spos) X.env := by rfl)
    (hfew : ((backTo cpos (starEach [e] X.env)).all (fun x => !x.1) && (backToKw cpos (keywordEach [] X.env)).all (fun x => x.1.isSome)
      && decide (([e] : List Expr).length + ([] : List Keyword).length + (if ([] : List Keyword).isEmpty then 0 else 1) < 30)) = true := by rfl)
    (hline : (apos.endLine == cpos.line) = true := by rfl) (hse : starEach [e] X.env = (false, eval e X.env) :: starEach [] X.env := by rfl) (hplain : (backTo cpos (starEach [] X.env)).any (·.1) = false := by rfl) :
    SndE X E (.Call (.Attribute (.Subscript (.Name x p) ei spos) ("append" : Str) apos) [e] [] cpos) (appIxG i ix q) := by
  obtain ⟨tx, x1, x2⟩ := hi
  obtain ⟨te, e1, e2⟩ := h
  refine ⟨_, pe_bm PySem.F.plainAttrs_list PySem.F.slot_list_append PySem.F.type_list_append mt_append (pe_ix ix_seq (pe_var hN hv hd hcd) x1 hm) (pa_cons e1 pa_nil hse) hbase hfew hline hse hplain, fun M N fx pin φ H env σ ts Q g w => ?_⟩
  unfold appIxG at w
  cases he : env[i]? with
  | none => rw [he] at w; exact w.elim
  | some s =>
    rw [he] at w
    cases s with
    | emp => exact (show False from w).elim
    | pin => exact (show False from w).elim
    | ref d => exact (show False from w).elim
    | val o d0 =>
      cases o with
      | false => exact (show False from w).elim
      | true =>
        cases d0 with
        | lst xs =>
          simp only at w
          obtain ⟨v0, hv0, as0, r0, m0, l0, n0⟩ := g.slot i _ he
          cases r0 with
          | @lst a vs _ as ha rs =>
            have lab : ∀ b ∈ a :: as, φ b = some (.slot i) := fun b hb => by simpa using l0 b hb
            have nd := n0 rfl
            have hna : a ∉ as := (List.nodup_cons.mp nd).1
            have hlen := rs.length
            have hil : i < env.length := (List.getElem?_eq_some_iff.mp he).1
            refine ⟨.ref a, hv0, x2 M env σ H _ g.obs ?_⟩
            cases hx : ix env with
            | no => rw [hx] at w; exact w.elim
            | ex z => rw [hx] at w; exact w.elim
            | ok f dk =>
              rw [hx] at w
              cases dk with
              | int k =>
                simp only at w
                intro u H1 cs1 ex1 rep1 _ _
                cases rep1
                cases hn : ixN xs.length k with
                | none => rw [hn] at w; exact w.elim
                | some n =>
                  rw [hn] at w
                  simp only at w
                  cases hxn : xs[n]? with
                  | none => rw [hxn] at w; exact w.elim
                  | some dn =>
                    rw [hxn] at w
                    cases dn with
                    | lst zs =>
                      simp only at w
                      cases hq : q env with
                      | no => rw [hq] at w; exact w.elim
                      | ex z => rw [hq] at w; exact w.elim
                      | ok f2 d =>
                        rw [hq] at w
                        simp only at w
                        split at w
                        · rename_i hz
                          simp only [Bool.and_eq_true] at hz
                          obtain ⟨v, bs, cs, es, k1, k2, k3, k4⟩ := (rs.mono ex1).at hxn
                          cases k2 with
                          | @lst b ws _ bs0 hb rb =>
                            have hat : L2.atI vs k = some (.ref b) := by
                              unfold L2.atI; rw [← hlen, hn]; exact k1
                            have hbin : b ∈ as := by rw [k3]; simp
                            have hba : b ≠ a := fun z => hna (z ▸ hbin)
                            have g1 := g.ext ex1
                            refine .inl ⟨a, vs, k, .ref b, rfl, rfl, SqL.of (ex1 a _ ha), hat, tyV_list hb, e2 M env σ H1 _ g1.obs ?_⟩
                            rw [hq]
                            intro v1 H2 cs2 ex2 rep2 _ _
                            have hc2 := rep2.noL hz.1
                            subst hc2
                            have nds : (cs ++ (b :: bs0 ++ es)).Nodup := by rw [← k3]; exact (List.nodup_cons.mp nd).2
                            have hbn : b ∉ cs ∧ b ∉ bs0 ∧ b ∉ es := by
                              have := List.nodup_append.mp nds
                              have h5 := (List.nodup_cons.mp (show (b :: (bs0 ++ es)).Nodup by simpa using this.2.1)).1
                              exact ⟨fun z => this.2.2 b z b (by simp) rfl, fun z => h5 (by simp [z]), fun z => h5 (by simp [z])⟩
                            have emi : ∀ s, (env.set i .emp)[i]? = some s → s = .emp := fun s hs => by
                              rw [List.getElem?_set_self hil] at hs
                              cases hs; rfl
                            have g3 := ((g1.ext ex2).toEmp i).mutHid (i := i) (b := b) (ws := ws) (ws' := ws ++ [v1]) emi (lab b (List.mem_cons_of_mem _ hbin)) (ex2 b _ hb)
                            have r5 : Rep (L2.upd H2 b (.lst (ws ++ [v1]))) (.lst (zs ++ [d])) (.ref b) (b :: bs0) := by
                              refine .lst upd_same ?_
                              have r6 : Reps H2 [d] [v1] ([] ++ []) := .cons rep2 .nil
                              have r7 := (rb.mono ex2).append r6
                              simp only [List.append_nil] at r7
                              exact r7.upd (ex2 b _ hb) hbn.2.1
                            have r8 := k4 (L2.upd H2 b (.lst (ws ++ [v1]))) (.lst (zs ++ [d])) (b :: bs0) (fun a' o' ha' hi' => by
                              have : a' ≠ b := fun z => by
                                subst z
                                rcases hi' with z | z
                                · rcases List.mem_append.mp z with z | z
                                  · exact hbn.1 z
                                  · exact hbn.2.2 z
                                · rw [hb] at ha'; cases ha'; cases z
                              rw [upd_ne this]; exact ex2 a' _ ha') r5
                            rw [← k3] at r8
                            have ha2 : L2.upd H2 b (.lst (ws ++ [v1])) a = some (.lst vs) := by rw [upd_ne (Ne.symm hba)]; exact ex2 a _ (ex1 a _ ha)
                            have g4 := g3.show hil hv0 (.lst ha2 r8) m0 lab nd
                            exact ⟨b, ws, v1, rfl, rfl, ex2 b _ hb, szOk_lt (by rw [← rb.length]; exact hz.2), w _ _ _ (g4.push (Ex.refl _) .non ⟨List.nodup_nil, noMem⟩)⟩
                        · exact w.elim
                    | _ => exact (show False from w).elim
              | _ => exact (show False from w).elim
        | _ => exact (show False from w).elim
end
end CB

namespace CB
open PySem L2 PySem.Spec PyProof.Rows
variable [CT]
/-! ### a def whose parameters own what is handed in new -/
def spO (n : Nat) (mg : Str → Option Value) (F : List (Bool × D) → PR) : Sp := fun vs H Q E => vs.length = n ∧ ∃ (H0 : Hp) (S : Addr → Prop) (fds : List (Bool × D)), Ex H0 H ∧ Parts S H0 H fds vs ∧ PWant S mg H0 Q E (F fds)
def startO (n : Nat) (fds : List (Bool × D)) : Env := fds.map (fun x => .val x.1 x.2) ++ List.replicate (n - fds.length) .emp
def fnO (n : Nat) (m : SM) (fds : List (Bool × D)) : PR := match m (startO n fds) with
  | .nx _ => .ok true .non
  | .rt o d _ => .ok o d
  | .ex x _ => .ex x
  | .no => .no
open Classical in
theorem Good.startO {S : Addr → Prop} {H0 H : Hp} {fds : List (Bool × D)} {vs : List V} {n : Nat} {NN : List Str} (e0 : Ex H0 H) (hl : fds.length = vs.length) (ass : Nat → List Addr)
    (ha : ∀ i f d v, fds[i]? = some (f, d) → vs[i]? = some v → Rep H d v (ass i) ∧ (∀ a ∈ ass i, S a ∨ H0 a = none) ∧ (f = true → New H0 (ass i) ∧ ∀ j, j ≠ i → j < fds.length → ∀ a ∈ ass i, a ∉ ass j)) (hn : NN.length = n) (hk : fds.length ≤ n) :
    ∃ φ, Good (fun a => S a ∨ H0 a = none) (fun a => H0 a = none) (fun a o => H a = some o ∧ ∀ i d, fds[i]? = some (true, d) → a ∉ ass i) (fun _ => none) φ H (CB.startO n fds) (L2.start NN vs) [] := by
  have hv : ∀ i, i < fds.length → ∃ v, vs[i]? = some v := fun i hi => ⟨vs[i]'(by omega), List.getElem?_eq_getElem (by omega)⟩
  refine ⟨fun a => if h : ∃ i d, fds[i]? = some (true, d) ∧ a ∈ ass i then some (.slot (choose h)) else none, ?_, fun a o ⟨h1, h2⟩ => ⟨h1, ?_⟩, fun a h => ?_, fun p h => ?_, fun i s h => ?_, fun j t h => by simp at h⟩
  · unfold Lens CB.startO L2.start
    rw [List.length_append, List.length_map, List.length_replicate, List.length_append, List.length_map, List.length_replicate, hn, hl]
    omega
  · exact dif_neg fun ⟨i, d, q1, q2⟩ => h2 i d q1 q2
  · have hh : ∃ i d, fds[i]? = some (true, d) ∧ a ∈ ass i := Classical.byContradiction fun z => h (dif_neg z)
    obtain ⟨i, d, q1, q2⟩ := hh
    have hi : i < fds.length := (List.getElem?_eq_some_iff.mp q1).1
    obtain ⟨v, ev⟩ := hv i hi
    obtain ⟨z1, z2, z3⟩ := ha i _ _ _ q1 ev
    exact ⟨(z3 rfl).1.2 a q2, z1.there a q2⟩
  · have hp : H0 p = none := by
      cases e : H p with
      | none => exact e0.back e
      | some o =>
        have := h o
        have hh : ∃ i d, fds[i]? = some (true, d) ∧ p ∈ ass i := Classical.byContradiction fun z => this ⟨e, fun i d q1 q2 => z ⟨i, d, q1, q2⟩⟩
        obtain ⟨i, d, q1, q2⟩ := hh
        have hi : i < fds.length := (List.getElem?_eq_some_iff.mp q1).1
        obtain ⟨v, ev⟩ := hv i hi
        obtain ⟨z1, z2, z3⟩ := ha i _ _ _ q1 ev
        exact (z3 rfl).1.2 p q2
    exact ⟨hp, .inr hp⟩
  · unfold CB.startO at h
    by_cases hi : i < fds.length
    · rw [List.getElem?_append_left (by simpa using hi), List.getElem?_map] at h
      obtain ⟨⟨f0, d0⟩, e⟩ : ∃ p, fds[i]? = some p := ⟨fds[i], List.getElem?_eq_getElem hi⟩
      rw [e] at h
      cases h
      obtain ⟨v, ev⟩ := hv i hi
      obtain ⟨z1, z2, z3⟩ := ha i f0 d0 v e ev
      refine ⟨v, ?_, ass i, z1, z2, fun a hm => ?_, fun z => (z3 z).1.1⟩
      · unfold L2.start
        rw [List.getElem?_append_left (by simp; omega), List.getElem?_map, ev]; rfl
      · by_cases z : f0 = true
        · subst z
          rw [if_pos rfl]
          have hh : ∃ j d, fds[j]? = some (true, d) ∧ a ∈ ass j := ⟨i, d0, e, hm⟩
          have key : choose hh = i := by
            obtain ⟨d, q1, q2⟩ := choose_spec hh
            refine Classical.byContradiction fun ne => ?_
            exact (z3 rfl).2 (choose hh) ne (List.getElem?_eq_some_iff.mp q1).1 a hm q2
          show (if h : ∃ i d, fds[i]? = some (true, d) ∧ a ∈ ass i then some (Lb.slot (choose h)) else none) = _
          rw [dif_pos hh, key]
        · rw [if_neg z]
          refine dif_neg fun ⟨j, d, q1, q2⟩ => ?_
          have hj : j < fds.length := (List.getElem?_eq_some_iff.mp q1).1
          obtain ⟨v', ev'⟩ := hv j hj
          obtain ⟨_, _, y3⟩ := ha j _ _ _ q1 ev'
          have ne : i ≠ j := fun q => z (by subst q; rw [e] at q1; cases q1; rfl)
          exact (y3 rfl).2 i ne hi a q2 hm
    · rw [List.getElem?_append_right (by simpa using hi)] at h
      rw [List.getElem?_replicate] at h
      split at h <;> cases h
      trivial
theorem fno_ok {P' : Program} {w : World} {K : PySem.W.Frag} {mg : Str → Option Value} {base : Heap} {x qual : Str} {st : Stmt} {f : Addr} {fd : FuncData} {NN ps : List Str} {k n : Nat} {m : SM} (F : Fun K x qual st f fd) (S : FnScope NN ps (defScope st)) (hn : NN.length = n) (hk : ps.length ≤ n)
    (hb : ∀ (cdv : Value) (A : Around) (outer : List PySem.Env) (s : Shared) (H : Hp) (E : XK), RoomG k (A.deeper (envOfC qual (defScope st) s.heap.objs.size f cdv)) → SndB (cxOf (L2.CX P' w) P' w K mg base NN qual (defScope st) f cdv A outer s H E) E (defBody st) m) :
    FnOkG P' w K mg base (L2.CX P' w) (k + 1) f fd ps (spO ps.length mg (fnO n m)) := by
  refine okXG F S (fun vs H Q E h => h.1) (fun cdv A outer s H vs Q E hr h => ?_)
  obtain ⟨hl, H0, S', fds, e0, ⟨p1, ass, p2⟩, w⟩ := h
  obtain ⟨t, h1, h2⟩ := hb cdv A outer s H E hr
  obtain ⟨φ, g⟩ := Good.startO (NN := NN) e0 p1 ass p2 hn (by omega)
  refine ⟨t, h1, h2 _ _ _ _ _ H _ _ [] _ g ?_⟩
  have ex : ∀ {φ' : Lab} {H' : Hp} {e : Env} {σ' : L2.St} {ts : List Tmp}, Good (fun a => S' a ∨ H0 a = none) (fun a => H0 a = none) (fun a o => H a = some o ∧ ∀ i d, fds[i]? = some (true, d) → a ∉ ass i) (fun _ => none) φ' H' e σ' ts → Ex H0 H' := fun g' a o h => (g'.fix a o ⟨e0 a o h, fun i d q hm => by
    have hi : i < fds.length := (List.getElem?_eq_some_iff.mp q).1
    obtain ⟨_, _, z3⟩ := p2 i _ _ (vs[i]'(by omega)) q (by simp)
    rw [(z3 rfl).1.2 a hm] at h; cases h⟩).1
  unfold fnO at w
  cases hm : m (CB.startO n fds) with
  | no => rw [hm] at w; exact w
  | ex x env' => rw [hm] at w; exact fun φ' H' σ' c dx g' r' => w c dx H' (ex g') r'
  | nx env' => rw [hm] at w; exact fun φ' H' σ' g' => w .non H' [] (ex g') .non noMem fun _ => .nil H0
  | rt o d env' =>
    rw [hm] at w
    intro φ' H' σ' v g'
    obtain ⟨bs, r1, r2, r3, r4⟩ := g'.tmp 0 (o, d, v) (by simp)
    refine w v H' bs (ex g') r1 r2 fun z => ⟨r4 z, fun a ha => ?_⟩
    have z' : o = true := z
    have := r3 a ha
    rw [z'] at this
    exact (g'.own a (by rw [this]; exact fun q => nomatch q)).1
section
variable {P : Program} {w : World} {K : PySem.W.Frag} {mg : Str → Option Value} {base : Heap} {x : Str} {st : Stmt} {k n r : Nat} {NN ps : List Str} {m : SM}
theorem Defd.calO (D : Defd K mg x st) (S : FnScope NN ps (defScope st)) (hn : NN.length = n) (hk : ps.length ≤ n)
    (hb : ∀ (f : Addr) (cdv : Value) (A : Around) (outer : List PySem.Env) (s : Shared) (H : Hp) (E : XK), RoomG k (A.deeper (envOfC x (defScope st) s.heap.objs.size f cdv)) → SndB (cxOf (L2.CX P w) P w K mg base NN x (defScope st) f cdv A outer s H E) E (defBody st) m)
    (h : ∀ (kV doc pm : Value) (an : Option Addr) (cdv ct : Value) (us : List Value), us.length = ps.length → bindArgs (PySem.W.fnOf x x (defArgs st) (defBody st) (defScope st) .none kV doc pm an cdv ct) ⟨us, []⟩ = pure (ps.zip us)) :
    Cal P w K mg base x (k + 1) ps (spO ps.length mg (fnO n m)) := by
  obtain ⟨f, fd, F, hm⟩ := D
  exact ⟨f, fd, fno_ok F S hn hk (hb f), hm, F.kp, F.binds h⟩
end
def callPO (n : Nat) (F : List (Bool × D) → PR) (ps : List P) : P := fun env => match argsF ps env with
  | .ok fds => if decide (fds.length = n) then F fds else .no
  | .ex x => .ex x
  | .no => .no
section
variable {X : Cx} {E : XK} {k j n r i : Nat} {pn : List Str} {x : Str} {p pos : Pos} {e : Expr} {es : List Expr} {ps : List P}
theorem sndcO {F : List (Bool × D) → PR} (C : Cal X.prog X.w X.K X.mg X.base x k pn (spO n X.mg F)) (hr : RoomG j X.A) (hj : k ≤ j) (hx : Passes (L2.CX X.prog X.w) X E) (hg : Gl X x) (h : SndAF X E (e :: es) ps)
    (hdb : (x == ("__debug__" : Str)) = false := by decide) (he : starEach (e :: es) X.env = (false, eval e X.env) :: starEach es X.env := by rfl) (hpl : (backTo pos (starEach es X.env)).any (·.1) = false := by rfl) : SndP X E (.Call (.Name x p) (e :: es) [] pos) (callPO n F ps) := by
  obtain ⟨f, fd, G, hm, hk, hb⟩ := C
  obtain ⟨t, h1, h2⟩ := h
  refine ⟨_, pe_callG G (hr.mono hj) hg hm hk hb hx h1 hdb he hpl, fun S env σ H Q o w => h2 (fun a => S a ∧ H a ≠ none) env σ H _ ⟨o.len, fun i d hd => ?_⟩ (fun a ha => ha.2) ?_⟩
  · obtain ⟨v, as, q1, q2, q3⟩ := o.get i d hd
    exact ⟨v, as, q1, q2, fun a ha => ⟨q3 a ha, q2.ne a ha⟩⟩
  unfold callPO at w
  cases hp : argsF ps env with
  | no => rw [hp] at w; exact w
  | ex x => rw [hp] at w; exact w
  | ok fds =>
    rw [hp] at w
    simp only at w
    split at w
    · rename_i hn
      have hn := of_decide_eq_true hn
      intro vs H1 e1 pt
      show spO n X.mg F (vs ++ []) H1 Q E
      rw [List.append_nil]
      obtain ⟨hl, ass, ha⟩ := pt
      exact ⟨by omega, H, S, fds, e1, ⟨hl, ass, fun i f d v q1 q2 => let ⟨z1, z2, z3⟩ := ha i f d v q1 q2; ⟨z1, fun a hm => (z2 a hm).imp (·.1) id, z3⟩⟩, w⟩
    · exact w.elim
end
end CB

namespace CB
open PySem L2 PySem.Spec PyProof.Rows
variable [CT]
/-! ### {k: v, ..} with tuples of ints for keys, each once -/
theorem storedAll_nodup : ∀ (ps acc : Ents), ((acc ++ ps).map (·.1)).Nodup → storedAllH acc ps = acc ++ ps
  | [], acc, _ => by rw [List.append_nil]; rfl
  | p :: ps, acc, h => by
    have h1 : atKey acc p.1 = none := by
      cases e : atKey acc p.1 with
      | none => rfl
      | some q =>
        have := atKey_has acc p.1
        rw [e] at this
        have hm : p.1 ∈ acc.map (·.1) := of_decide_eq_true this.symm
        rw [List.map_append, List.nodup_append] at h
        exact absurd rfl (h.2.2 _ hm _ (by simp))
    show storedAllH (storedH acc p.1 p.2.1 p.2.2) ps = _
    rw [storedH_new h1, storedAll_nodup ps (acc ++ [(p.1, p.2.1, p.2.2)]) (by simpa using h)]
    simp
abbrev Xs := List (List Int × Addr × V)
def dO0 : Obj := { cls := .type "dict", data := .dict #[] }
def tDispI (trs : List (TE × TE)) : TE := fun σ H Q => ∀ p, H p = none → tPairs trs σ (upd H p (dO p dO0)) fun prs H2 => H2 p = some (dO p dO0) ∧ ∃ xs : Xs, prs = xs.map (fun x => (.ref x.2.1, x.2.2)) ∧ xs.length ≤ 15 ∧ (xs.map (·.1)).Nodup ∧
  (∀ x ∈ xs, ∃ q, H2 x.2.1 = some (.frz q (.tup (x.1.map V.int))) ∧ q.dict = none) ∧
  ∀ o' es' ep' (ents : Ents), ents.map (·.1) = xs.map (·.1) → IsDic (upd H2 p (dO p o')) p o' es' ep' ents → L2.Vals (xs.map (·.2.2)) (ents.map (·.2.2)) → Q (.ref p) (upd H2 p (dO p o'))
theorem carryI {P : Program} {w : World} {H : Hp} {h : Heap} (ok : HOk P w H h) : ∀ {xs : Xs} {ws : List (Value × Value)}, VV (xs.map fun x => (.ref x.2.1, x.2.2)) ws → (∀ x ∈ xs, ∃ q, H x.2.1 = some (.frz q (.tup (x.1.map V.int)))) →
    ∃ es : Ents, CarriesH (tupleKind (intKind P w)) h ws es ∧ es.map (·.1) = xs.map (·.1) ∧ es.map (·.2.1) = xs.map (·.2.1) ∧ L2.Vals (xs.map (·.2.2)) (es.map (·.2.2))
  | [], _, r, _ => by rw [List.map_nil] at r; cases r; exact ⟨[], True.intro, rfl, rfl, .nil⟩
  | x :: xs, _, r, hk => by
    rw [List.map_cons] at r
    cases r with
    | @cons a b as bs hh t =>
      obtain ⟨es, c, e1, e2, e3⟩ := carryI ok t fun y hy => hk y (List.mem_cons_of_mem _ hy)
      obtain ⟨q, hq⟩ := hk x (List.mem_cons_self)
      obtain ⟨b1, b2⟩ := b
      have hb : b1 = .ref x.2.1 := hh.1
      subst hb
      exact ⟨(x.1, x.2.1, b2) :: es, ⟨rfl, rfl, key_int ok hq, c⟩, by simp [e1], by simp [e2], .cons hh.2 e3⟩
theorem pe_dispI {X : Cx} {pos : Pos} {keys : List (Option Expr)} {values : List Expr} {trs : List (TE × TE)} (hu : X.A.units + 1 < cLine) (h : PPs X pos keys values trs) (hall : keys.all (·.isSome) = true) (hl : keys.length = values.length) (h0 : keys ≠ [])
    (h15 : keys.length ≤ 15) : PE X (.Dict keys values pos) (tDispI trs) := by
  refine ⟨fun pins s σ H Q I q => ?_⟩
  have hn := I.hok.fresh (Nat.le_refl s.heap.objs.size)
  have hbig := I.big
  have I1 := I.laid (a := s.heap.objs.size) (o := dO s.heap.objs.size dO0) (h' := s.heap.push { cls := .type "dict", data := .dict #[] }) (t' := s.toks) (fun _ _ q => Heap.get?_push_of_some _ q) (Nat.le_refl _) (dO_ok (Heap.get?_push_size _ rfl))
  have hne := pairTrees_length keys values X.env pos hall hl
  have hp0 : pairTrees keys values X.env pos ≠ [] := fun z => by
    rw [z] at hne; exact h0 (List.length_eq_zero_iff.mp hne.symm)
  have hp15 : (pairTrees keys values X.env pos).length ≤ 15 := by rw [hne]; exact h15
  rw [arm_eval_Dict, zip_pairTrees keys values X.env pos hall hl, dictDisplay_pairs _ hp0 (by omega)]
  refine wpAny_bind (wpAny_standAt (wpAny_bind (wpAny_subDictH (knd := tupleKind (intKind X.prog X.w)) (show X.A.units < cLine by omega) hp15 ?_)))
  refine thn (h.run pins _ σ _ _ I1 (q _ hn)) fun ws s2 ⟨prs, H2, I2, rel, e, xs, ep, lk, nd, hk, q2⟩ => ?_
  subst ep
  obtain ⟨es, c, e1, e2, e3⟩ := carryI I2.hok rel fun x hx => let ⟨q, z, _⟩ := hk x hx; ⟨q, z⟩
  have dd : s2.heap.DictOfH (tupleKind (intKind X.prog X.w)) s.heap.objs.size [] := ⟨dO0, #[], 0, dO_get I2.hok e, ⟨rfl, rfl, rfl⟩, rfl, rfl, (fun x hx => nomatch hx), List.nodup_nil⟩
  refine ⟨es, c, dd, fun h' tk dd' hs => wpAny_pure ?_⟩
  have nd' : (es.map (·.1)).Nodup := by rw [e1]; exact nd
  rw [storedAll_nodup es [] (by simpa using nd'), List.nil_append] at dd'
  obtain ⟨o', es', ep', hq, g2, g3, g4, _, g5⟩ := dd'
  have ne : ∀ c q u, H2 c = some (.frz q u) → c ≠ s.heap.objs.size := fun c q u z => ne_of z e (fun y => nomatch y)
  have hlen : es.length = xs.length := by have := congrArg List.length e1; simpa using this
  refine ⟨.ref s.heap.objs.size, _, d_write I2 (by rw [e]; exact True.intro) hs ⟨o', hq⟩ (dO_ok hq), rfl, q2 o' es' ep' es e1 ⟨beq_eq_false_iff_ne.mpr (Nat.ne_of_gt hbig), g2, g3, g4, g5, by rw [hlen, sizeLine_eq]; omega, fun x hx => ?_⟩ e3⟩
  obtain ⟨i, hi, ex⟩ := List.mem_iff_getElem.mp hx
  have hxi : i < xs.length := by omega
  obtain ⟨q, z1, z2⟩ := hk _ (List.getElem_mem hxi)
  have k1 : x.1 = (xs[i]).1 := by
    have := congrArg (fun l => l[i]?) e1
    simp [hi, hxi, ex] at this; exact this
  have k2 : x.2.1 = (xs[i]).2.1 := by
    have := congrArg (fun l => l[i]?) e2
    simp [hi, hxi, ex] at this; exact this
  rw [k1, k2]
  exact ⟨q, by rw [upd_ne (ne _ _ _ z1)]; exact z1, z2⟩
/-! the pairs -/
def pairUp {α : Type} : List α → List (α × α)
  | a :: b :: r => (a, b) :: pairUp r
  | _ => []
def SndPP (X : Cx) (E : XK) (pos : Pos) (keys : List (Option Expr)) (values : List Expr) (ps : List P) : Prop := ∃ trs, PPs X pos keys values trs ∧ ∀ (S : Addr → Prop) env σ H Q, ObsEnv S H env σ → AWant S X.mg H (fun vs H' => Q (pairUp vs) H') E (args ps env) → tPairs trs σ H Q
section
variable {X : Cx} {E : XK} {pos : Pos}
theorem sndpp_nil : SndPP X E pos [] [] [] := ⟨_, pps_nil, fun S env σ H Q _ w => w [] H [] (Ex.refl H) .nil noMem fun _ => .nil H⟩
theorem sndpp_cons {k v : Expr} {ks : List (Option Expr)} {vs : List Expr} {pk pv : P} {ps : List P} (hk : SndP X E k pk) (hv : SndP X E v pv) (hr : SndPP X E pos ks vs ps) : SndPP X E pos (some k :: ks) (v :: vs) (pk :: pv :: ps) := by
  obtain ⟨t, k1, k2⟩ := hk
  obtain ⟨u, v1, v2⟩ := hv
  obtain ⟨trs, r1, r2⟩ := hr
  refine ⟨_, pps_cons k1 v1 r1, fun S env σ H Q o w => ?_⟩
  show t σ H fun x H1 => u σ H1 fun y H2 => tPairs trs σ H2 fun ps H3 => Q ((x, y) :: ps) H3
  refine k2 S env σ H _ o ?_
  cases hp : pk env with
  | no => simp only [args, hp] at w; exact w
  | ex x => simp only [args, hp] at w; exact w
  | ok f d =>
    intro v' H1 as e1 q1 m1 n1
    refine v2 S env σ H1 _ (o.mono e1) ?_
    cases hq : pv env with
    | no => simp only [args, hp, hq] at w; exact w
    | ex x => simp only [args, hp, hq] at w; exact fun c dx H' e' r => w c dx H' (e1.trans e') r
    | ok g d2 =>
      intro y H2 bs e2 q2 m2 n2
      refine r2 S env σ H2 _ (o.mono (e1.trans e2)) ?_
      cases hz : args ps env with
      | no => simp only [args, hp, hq, hz] at w; exact w.elim
      | ex x => simp only [args, hp, hq, hz] at w; exact fun c dx H' e' r => w c dx H' ((e1.trans e2).trans e') r
      | ok j ds =>
        simp only [args, hp, hq, hz] at w
        intro vs H3 cs e3 q3 m3 n3
        refine w (v' :: y :: vs) H3 (as ++ (bs ++ cs)) ((e1.trans e2).trans e3) (.cons (q1.mono (e2.trans e3)) (.cons (q2.mono e3) q3)) (fun a h => ?_) fun z => ?_
        · rcases List.mem_append.mp h with h | h
          · exact m1 a h
          · rcases List.mem_append.mp h with h | h
            · exact (m2 a h).imp_right fun z => e1.back z
            · exact (m3 a h).imp_right fun z => (e1.trans e2).back z
        · rw [Bool.and_eq_true, Bool.and_eq_true] at z
          refine New.app e1 (gfl_new z.1 q1 n1) (New.app e2 (gfl_new z.2.1 q2 n2) (n3 z.2.2) q2.ne) q1.ne
/-- keys and values, told by turns -/
def dispD : List D → Option (List (List Int) × List D)
  | [] => some ([], [])
  | k :: v :: r => match keyOf k with
    | some ki => match dispD r with
      | some (ks, vs) => some (ki :: ks, v :: vs)
      | none => none
    | none => none
  | _ => none
theorem disp_reps {H : Hp} : ∀ {ds : List D} {vs : List V} {as : List Addr} {ks : List (List Int)} {xs : List D}, Reps H ds vs as → dispD ds = some (ks, xs) →
    ∃ zs : Xs, pairUp vs = zs.map (fun x => (.ref x.2.1, x.2.2)) ∧ zs.map (·.1) = ks ∧ Reps H xs (zs.map (·.2.2)) as ∧ ∀ x ∈ zs, ∃ q, H x.2.1 = some (.frz q (.tup (x.1.map V.int))) ∧ q.dict = none
  | [], _, _, _, _, .nil, h => by simp only [dispD] at h; cases h; exact ⟨[], rfl, rfl, .nil, fun x hx => nomatch hx⟩
  | [d], _, _, _, _, _, h => by simp [dispD] at h
  | k :: v :: r, _, _, ks, xs, .cons (as := a1) r1 (.cons (v := v2) (as := a2) (bs := a3) r2 r3), h => by
    simp only [dispD] at h
    cases e : keyOf k with
    | none => rw [e] at h; cases h
    | some ki =>
      rw [e] at h
      simp only at h
      cases e2 : dispD r with
      | none => rw [e2] at h; cases h
      | some kv =>
        obtain ⟨ks', vs'⟩ := kv
        rw [e2] at h; cases h
        obtain ⟨zs, h1, h2, h3, h4⟩ := disp_reps r3 e2
        obtain ⟨b, q, rfl, hb, hd, rfl⟩ := r1.key e
        refine ⟨(ki, b, v2) :: zs, by simp only [pairUp, h1, List.map_cons], by simp [h2], by simpa using Reps.cons r2 h3, fun x hx => ?_⟩
        rcases List.mem_cons.mp hx with z | z
        · subst z; exact ⟨q, hb, hd⟩
        · exact h4 x z
def ddispP (ps : List P) : P := fun env => match args ps env with
  | .ok f ds => match dispD ds with
    | some (ks, vs) => if ks.Nodup ∧ ks.length ≤ 15 then .ok f (.dic ks vs) else .no
    | none => .no
  | .ex x => .ex x
  | .no => .no
theorem snd_ddisp {keys : List (Option Expr)} {values : List Expr} {ps : List P} (hu : X.A.units + 1 < cLine) (h : SndPP X E pos keys values ps) (hall : keys.all (·.isSome) = true := by rfl) (hl : keys.length = values.length := by rfl) (h0 : keys ≠ [] := by exact fun z => nomatch z)
    (h15 : keys.length ≤ 15 := by decide) : SndP X E (.Dict keys values pos) (ddispP ps) := by
  obtain ⟨trs, h1, h2⟩ := h
  refine ⟨_, pe_dispI hu h1 hall hl h0 h15, fun S env σ H Q o w p hp => ?_⟩
  have e1 : Ex H (upd H p (dO p dO0)) := Ex.new hp
  have o' : ObsEnv (fun a => S a ∧ H a ≠ none) H env σ := ⟨o.len, fun i d hd => by
    obtain ⟨v, as, q1, q2, q3⟩ := o.get i d hd
    exact ⟨v, as, q1, q2, fun a ha => ⟨q3 a ha, q2.ne a ha⟩⟩⟩
  refine h2 _ env σ _ _ (o'.mono e1) ?_
  unfold ddispP at w
  cases ha : args ps env with
  | no => rw [ha] at w; exact w
  | ex x => rw [ha] at w; exact fun c dx H' e r => w c dx H' (e1.trans e) r
  | ok f ds =>
    rw [ha] at w
    simp only at w
    cases hd : dispD ds with
    | none => rw [hd] at w; exact w.elim
    | some kv =>
      obtain ⟨ks, xs⟩ := kv
      rw [hd] at w
      simp only at w
      split at w
      · rename_i hc
        intro vs H2 as e2 r m n
        obtain ⟨zs, z1, z2, z3, z4⟩ := disp_reps r hd
        have hp2 : H2 p = some (dO p dO0) := e2 _ _ upd_same
        have hlen : zs.length = ks.length := by have := congrArg List.length z2; simpa using this
        have pn : ∀ a ∈ as, a ≠ p := fun a ha z => by
          subst z
          rcases m a ha with q | q
          · exact q.2 hp
          · rw [upd_same] at q; cases q
        refine ⟨hp2, zs, z1, by omega, by rw [z2]; exact hc.1, z4, fun o' es' ep' ents k1 k2 k3 => ?_⟩
        have hk : ∀ a u, H2 a = some u → a ≠ p → upd H2 p (dO p o') a = some u := fun a u h ne => by rw [upd_ne ne]; exact h
        have rr : Reps (upd H2 p (dO p o')) xs (zs.map (·.2.2)) as := z3.keep fun a u h q => hk a u h (by
          rcases q with q | q
          · exact pn a q
          · intro z; subst z; rw [hp2] at h; cases h; cases q)
        have := Rep.dic (as := as) (ds := xs) (upd_same (H := H2) (a := p) (o := dO p o')) k2 k3 rr
        rw [k1, z2] at this
        refine w _ _ (p :: as) (fun a u h => ?_) this (fun a ha => ?_) fun z => ?_
        · exact hk a u (e2 a u (e1 a u h)) fun z => by subst z; rw [hp] at h; cases h
        · rcases List.mem_cons.mp ha with q | q
          · subst q; exact .inr hp
          · exact (m a q).imp (·.1) fun y => e1.back y
        · have nn := n z
          exact ⟨List.nodup_cons.mpr ⟨fun q => pn p q rfl, nn.1⟩, fun a ha => by
            rcases List.mem_cons.mp ha with q | q
            · subst q; exact hp
            · exact e1.back (nn.2 a q)⟩
      · exact w.elim
end
end CB

namespace CB
open PySem L2 PySem.Spec PyProof.Rows
variable [CT]
/-! ### and, or with effects, as values -/
section
variable {X : Cx} {E : XK}
theorem Good.blOwn {M N : Addr → Prop} {fx : Addr → HO → Prop} {pin : Nat → Option V} {φ : Lab} {H : Hp} {env : Env} {σ : L2.St} {ts : List Tmp} {o b : Bool} {v : V} (g : Good M N fx pin φ H env σ (ts ++ [(o, .bl b, v)])) : v = .bl b ∧ ∃ φ', Good M N fx pin φ' H env σ (ts ++ [(true, .bl b, .bl b)]) := by
  obtain ⟨as, r, _⟩ := g.tmp ts.length (o, .bl b, v) (by simp)
  cases r
  exact ⟨rfl, _, g.drop1.push (Ex.refl H) (.bl b) (.nil H)⟩
theorem snde_one {op : BoolOp} {e1 : Expr} {m : GE} {pos : Pos} (h1 : SndE X E e1 m) : SndE X E (.BoolOp op [e1] pos) m := let ⟨_, a, b⟩ := h1; ⟨_, pe_one a, b⟩
theorem snde_and {e1 e2 : Expr} {rest : List Expr} {m n : GE} {pos : Pos} (h1 : SndE X E e1 m) (h2 : SndE X E (.BoolOp .And (e2 :: rest) pos) n) : SndE X E (.BoolOp .And (e1 :: e2 :: rest) pos) (andG m n) := by
  obtain ⟨t, g1, s1⟩ := h1
  obtain ⟨u, g2, s2⟩ := h2
  refine ⟨_, pe_and g1 g2, fun M N fx pin φ H env σ ts Q g w => s1 M N fx pin φ H env σ ts _ g ?_⟩
  unfold andG at w
  cases hp : m env with
  | no => rw [hp] at w; exact w
  | ex x e => rw [hp] at w; exact w
  | ok f d e =>
    rw [hp] at w
    cases d with
    | bl b =>
      intro φ' H' v g'
      obtain ⟨rfl, φ2, g2⟩ := g'.blOwn
      refine ⟨b, rfl, ?_⟩
      cases b with
      | true => exact iteT (s2 M N fx pin φ2 H' e σ ts Q g2.drop1 w)
      | false => exact iteF (w φ2 H' _ g2)
    | _ => exact (show False from w).elim
theorem snde_or {e1 e2 : Expr} {rest : List Expr} {m n : GE} {pos : Pos} (h1 : SndE X E e1 m) (h2 : SndE X E (.BoolOp .Or (e2 :: rest) pos) n) : SndE X E (.BoolOp .Or (e1 :: e2 :: rest) pos) (orG m n) := by
  obtain ⟨t, g1, s1⟩ := h1
  obtain ⟨u, g2, s2⟩ := h2
  refine ⟨_, pe_or g1 g2, fun M N fx pin φ H env σ ts Q g w => s1 M N fx pin φ H env σ ts _ g ?_⟩
  unfold orG at w
  cases hp : m env with
  | no => rw [hp] at w; exact w
  | ex x e => rw [hp] at w; exact w
  | ok f d e =>
    rw [hp] at w
    cases d with
    | bl b =>
      intro φ' H' v g'
      obtain ⟨rfl, φ2, g2⟩ := g'.blOwn
      refine ⟨b, rfl, ?_⟩
      cases b with
      | true => exact iteT (w φ2 H' _ g2)
      | false => exact iteF (s2 M N fx pin φ2 H' e σ ts Q g2.drop1 w)
    | _ => exact (show False from w).elim
end
end CB

namespace CB
open PySem L2 PySem.Spec PyProof.Rows
variable [CT]
/-! ### for x in [..]: the items of a list of one's own become the variable's own -/
theorem Reps.each {H : Hp} : ∀ {ds : List D} {vs : List V} {as : List Addr}, Reps H ds vs as → ∃ ass : Nat → List Addr, (∀ i d v, ds[i]? = some d → vs[i]? = some v → Rep H d v (ass i)) ∧ (∀ i, i < ds.length → ∀ b ∈ ass i, b ∈ as) ∧
    (as.Nodup → (∀ i, i < ds.length → (ass i).Nodup) ∧ ∀ i j, i ≠ j → i < ds.length → j < ds.length → ∀ b ∈ ass i, b ∉ ass j)
  | _, _, _, .nil => ⟨fun _ => [], fun i d v h => by simp at h, fun i h => by simp at h, fun _ => ⟨fun i h => by simp at h, fun i j _ h => by simp at h⟩⟩
  | _, _, _, .cons (as := as) (bs := bs) r rs => by
    obtain ⟨ass, h1, h2, h3⟩ := Reps.each rs
    refine ⟨fun i => match i with | 0 => as | i + 1 => ass i, fun i d v hd hv => ?_, fun i hi b hb => ?_, fun nd => ?_⟩
    · cases i with
      | zero => simp at hd hv; subst hd hv; exact r
      | succ i => exact h1 i d v (by simpa using hd) (by simpa using hv)
    · cases i with
      | zero => exact List.mem_append_left _ hb
      | succ i => exact List.mem_append_right _ (h2 i (by simpa using hi) b hb)
    · obtain ⟨n1, n2, n3⟩ := List.nodup_append.mp nd
      obtain ⟨k1, k2⟩ := h3 n2
      refine ⟨fun i hi => ?_, fun i j hij hi hj b hb hb2 => ?_⟩
      · cases i with
        | zero => exact n1
        | succ i => exact k1 i (by simpa using hi)
      · cases i with
        | zero => cases j with
          | zero => exact hij rfl
          | succ j => exact n3 b hb b (h2 j (by simpa using hj) b hb2) rfl
        | succ i => cases j with
          | zero => exact n3 b hb2 b (h2 i (by simpa using hi) b hb) rfl
          | succ j => exact k2 i j (fun z => hij (by rw [z])) (by simpa using hi) (by simpa using hj) b hb hb2
def ownT (ds : List D) (vs : List V) (i : Nat) : List Tmp := (((ds.zip vs).drop i).reverse).map fun p => (true, p.1, p.2)
theorem ownT_len {ds : List D} {vs : List V} (hl : ds.length = vs.length) (i : Nat) : (ownT ds vs i).length = ds.length - i := by
  unfold ownT; simp [← hl]
theorem ownT_get {ds : List D} {vs : List V} (hl : ds.length = vs.length) {j : Nat} {t : Tmp} (h : (ownT ds vs 0)[j]? = some t) : j < ds.length ∧ t.1 = true ∧ ds[ds.length - 1 - j]? = some t.2.1 ∧ vs[ds.length - 1 - j]? = some t.2.2 := by
  unfold ownT at h
  rw [List.drop_zero, List.getElem?_map] at h
  have hj : j < ds.length := by
    cases e : (ds.zip vs).reverse[j]? with
    | none => rw [e] at h; cases h
    | some p => have := (List.getElem?_eq_some_iff.mp e).1; simpa [← hl] using this
  rw [List.getElem?_reverse (by simpa [← hl] using hj)] at h
  simp only [List.length_zip, ← hl, Nat.min_self] at h
  have hk : ds.length - 1 - j < ds.length := by omega
  have hz : (ds.zip vs)[ds.length - 1 - j]? = some (ds[ds.length - 1 - j], vs[ds.length - 1 - j]'(by omega)) := by
    have h2 : ds.length - 1 - j < vs.length := by omega
    rw [List.getElem?_zip_eq_some]
    exact ⟨List.getElem?_eq_getElem hk, List.getElem?_eq_getElem h2⟩
  rw [hz] at h
  cases h
  exact ⟨hj, rfl, by simp, by simp⟩
theorem ownT_step {ds : List D} {vs : List V} (hl : ds.length = vs.length) {i : Nat} (h : i < ds.length) : ownT ds vs i = ownT ds vs (i + 1) ++ [(true, ds[i], vs[i]'(by omega))] := by
  unfold ownT
  have hz : i < (ds.zip vs).length := by simp [← hl]; exact h
  rw [List.drop_eq_getElem_cons hz, List.reverse_cons, List.map_append]
  simp
section
variable {M N : Addr → Prop} {fx fx' : Addr → HO → Prop} {pin : Nat → Option V} {φ φ' : Lab} {H H' : Hp} {env : Env} {σ : L2.St} {ts us : List Tmp}
open Classical in
theorem Good.spread {ds : List D} {v : V} (g : Good M N fx pin φ H env σ (ts ++ [(true, .lst ds, v)])) :
    ∃ φ' a vs, v = .ref a ∧ H a = some (.lst vs) ∧ ds.length = vs.length ∧ Good M N (fun b o => fx b o ∨ (b = a ∧ o = .lst vs)) pin φ' H env σ (ts ++ ownT ds vs 0) := by
  obtain ⟨as0, r0, m0, l0, n0⟩ := g.tmp ts.length (true, .lst ds, v) (by simp)
  cases r0 with
  | @lst a vs _ as ha rs =>
    have nd := n0 rfl
    have hna : a ∉ as := (List.nodup_cons.mp nd).1
    have lab : ∀ b ∈ a :: as, φ b = some (.tmp ts.length) := fun b hb => by simpa using l0 b hb
    have hl := rs.length
    obtain ⟨ass, h1, h2, h3⟩ := rs.each
    obtain ⟨k1, k2⟩ := h3 (List.nodup_cons.mp nd).2
    have idx : ∀ {b : Addr} {k : Nat} (hk : k < ds.length) (hb : b ∈ ass k) (h : ∃ k, k < ds.length ∧ b ∈ ass k), choose h = k := fun {b k} hk hb h => by
      obtain ⟨q1, q2⟩ := choose_spec h
      exact Classical.byContradiction fun ne => k2 _ _ ne q1 hk b q2 hb
    have oth : ∀ {l : Lb} {o : Bool} {d : D} {v : V}, l ≠ .tmp ts.length → Held φ H M l o d v → Held (fun b => if b = a then none else if h : ∃ k, k < ds.length ∧ b ∈ ass k then some (.tmp (ts.length + (ds.length - 1 - choose h))) else φ b) H M l o d v := fun {l o d v} hl k => k.keep fun bs rb q => ⟨rb, fun b hb => by
      have nb : b ∉ a :: as := fun z => by
        have := q b hb
        rw [lab b z] at this
        cases o with
        | true => simp at this; exact hl this.symm
        | false => cases this
      show (if b = a then none else if h : ∃ k, k < ds.length ∧ b ∈ ass k then some (Lb.tmp (ts.length + (ds.length - 1 - choose h))) else φ b) = _
      rw [if_neg fun z => nb (by rw [z]; exact List.mem_cons_self), dif_neg fun ⟨k, hk, z⟩ => nb (List.mem_cons_of_mem _ (h2 k hk b z))]
      exact q b hb⟩
    refine ⟨fun b => if b = a then none else if h : ∃ k, k < ds.length ∧ b ∈ ass k then some (.tmp (ts.length + (ds.length - 1 - choose h))) else φ b, a, vs, rfl, ha, hl, g.len, fun b o h => ?_, fun b h => ?_, fun p h => g.free p fun o z => h o (.inl z), fun k s h => (g.slot k s h).keep fun o d v q => oth (fun z => nomatch z) q, fun j t h => ?_⟩
    · rcases h with h | ⟨rfl, rfl⟩
      · obtain ⟨f1, f2⟩ := g.fix b o h
        have nb : b ∉ a :: as := fun z => by rw [lab b z] at f2; cases f2
        refine ⟨f1, ?_⟩
        show (if b = a then none else if h : ∃ k, k < ds.length ∧ b ∈ ass k then some (Lb.tmp (ts.length + (ds.length - 1 - choose h))) else φ b) = _
        rw [if_neg fun z => nb (by rw [z]; exact List.mem_cons_self), dif_neg fun ⟨k, hk, z⟩ => nb (List.mem_cons_of_mem _ (h2 k hk b z))]
        exact f2
      · exact ⟨ha, if_pos rfl⟩
    · refine g.own b fun z => h ?_
      have nb : b ∉ a :: as := fun y => by rw [lab b y] at z; cases z
      show (if b = a then none else if h : ∃ k, k < ds.length ∧ b ∈ ass k then some (Lb.tmp (ts.length + (ds.length - 1 - choose h))) else φ b) = _
      rw [if_neg fun z => nb (by rw [z]; exact List.mem_cons_self), dif_neg fun ⟨k, hk, z⟩ => nb (List.mem_cons_of_mem _ (h2 k hk b z))]
      exact z
    · by_cases hj : j < ts.length
      · rw [List.getElem?_append_left hj] at h
        exact oth (fun z => by cases z; exact absurd hj (Nat.lt_irrefl _)) (g.tmp j t (by rw [List.getElem?_append_left hj]; exact h))
      · rw [List.getElem?_append_right (by omega)] at h
        obtain ⟨z1, z2, z3, z4⟩ := ownT_get hl h
        have hk : ds.length - 1 - (j - ts.length) < ds.length := by omega
        refine ⟨ass (ds.length - 1 - (j - ts.length)), h1 _ _ _ z3 z4, fun b hb => m0 b (List.mem_cons_of_mem _ (h2 _ hk b hb)), fun b hb => ?_, fun _ => k1 _ hk⟩
        rw [z2, if_pos rfl]
        have hh : ∃ k, k < ds.length ∧ b ∈ ass k := ⟨_, hk, hb⟩
        show (if b = a then none else if h : ∃ k, k < ds.length ∧ b ∈ ass k then some (Lb.tmp (ts.length + (ds.length - 1 - choose h))) else φ b) = _
        rw [if_neg fun (z : b = a) => hna (z ▸ h2 _ hk b hb), dif_pos hh, idx hk hb hh]
        congr 2; omega
end
def loopO (i : Nat) (m : SM) : List D → Env → SR
  | [], env => .nx env
  | d :: ds, env => match m (env.set i (.val true d)) with
    | .nx env2 => loopO i m ds env2
    | r => r
def forOwn (i : Nat) (p : GE) (m : SM) : SM := fun env => match p env with
  | .ok true (.lst ds) env1 => loopO i m ds env1
  | .ex x e => .ex x e
  | _ => .no
section
variable {X : Cx} {E : XK}
theorem snds_forOwn (i : Nat) {y : Str} {iter : Expr} {body : List Stmt} {p : GE} {m : SM} {py pos : Pos} (hp : PassesOwn (model X.prog X.w) X.A X.env X.xe) (hc : X.calm = true) (hi : SndE X E iter p) (hg : SndG X (.Name y py) (.nm i)) (hb : SndB X E body m)
    (hs : ∀ z, foldedSetIterable iter X.env z = pure z := by intro _; rfl) : SndS X E (.For (.Name y py) iter body [] pos) (forOwn i p m) := by
  obtain ⟨ti, i1, i2⟩ := hi
  obtain ⟨gg, q1, q2⟩ := hg
  obtain ⟨tb, b1, b2⟩ := hb
  refine ⟨_, ps_for hp hc (pi_seqF i1) q1 b1 hs, fun M N fx pin φ H env σ ts K g w => i2 M N fx pin φ H env σ ts _ g ?_⟩
  unfold forOwn at w
  cases hq : p env with
  | no => rw [hq] at w; exact w
  | ex x e => rw [hq] at w; exact fun φ' H' c dx g' r => w φ' H' σ c dx g' r
  | ok o d env1 =>
    rw [hq] at w
    cases o with
    | false => exact (show False from w).elim
    | true => cases d with
      | lst ds =>
        intro φ1 H1 v g1
        obtain ⟨φ2, a, vs, rfl, ha, hl, g2⟩ := g1.spread
        refine ⟨a, rfl, .inl ⟨vs, SqL.of ha, ?_⟩⟩
        refine ⟨fun k n σ H => n = ds.length - k ∧ k ≤ ds.length ∧ ∃ φ env, Good M N (fun b o => fx b o ∨ (b = a ∧ o = .lst vs)) pin φ H env σ (ts ++ ownT ds vs k) ∧ SWant M N fx pin X.mg ts E K (loopO i m (ds.drop k) env), ⟨ds.length, by simp, Nat.zero_le _, φ2, env1, g2, by simpa using w⟩, ?_⟩
        rintro k n σ' H' ⟨rfl, hk, φ3, env3, g3, w3⟩
        have hf : H' a = some (.lst vs) := (g3.fix a _ (.inr ⟨rfl, rfl⟩)).1
        by_cases hlt : k < ds.length
        · have ed : ds.drop k = ds[k] :: ds.drop (k + 1) := List.drop_eq_getElem_cons hlt
          rw [ed] at w3
          simp only [loopO] at w3
          refine .inr ⟨⟨vs, vs[k]'(by omega), SqL.of hf, by simp⟩, fun σ2 H2 => ∃ φ' env', Good M N (fun b o => fx b o ∨ (b = a ∧ o = .lst vs)) pin φ' H2 env' σ2 (ts ++ ownT ds vs (k + 1)) ∧ SWant M N fx pin X.mg ts E K (loopO i m (ds.drop (k + 1)) env'), fun σ2 H2 ⟨φ', env', g', w'⟩ => ⟨ds.length - (k + 1), by omega, rfl, hlt, φ', env', g', w'⟩, fun x' H'' hy => ?_⟩
          obtain ⟨ee, hy⟩ := hy
          subst ee
          have hvk := hy vs (SqL.of hf)
          have hvk2 : vs[k]? = some (vs[k]'(by omega)) := by simp
          rw [hvk2] at hvk
          have ex := Option.some.inj hvk
          rw [ownT_step hl hlt, ← List.append_assoc] at g3
          rw [ex] at g3
          obtain ⟨as, ra, _⟩ := g3.tmp (ts ++ ownT ds vs (k + 1)).length (true, ds[k], x') (by simp)
          refine q2 x' σ' _ ds[k] as _ ra trivial fun σ2 hσ2 => ?_
          have hσ2' : σ2 = σ'.set i (some x') := hσ2
          subst hσ2'
          refine b2 _ _ _ _ _ _ _ _ (ts ++ ownT ds vs (k + 1)) _ g3.store ?_
          cases hm : m (env3.set i (.val true ds[k])) with
          | no => rw [hm] at w3; exact w3
          | nx env4 => rw [hm] at w3; exact fun φ4 H4 σ4 g4 => ⟨φ4, env4, g4, w3⟩
          | ex x env4 => rw [hm] at w3; exact fun φ4 H4 σ4 c dx g4 r => w3 φ4 H4 σ4 c dx (g4.drops.unfixed g.free) r
          | rt o d env4 =>
            rw [hm] at w3
            intro φ4 H4 σ4 v g4
            obtain ⟨φ5, g5⟩ := g4.squash
            exact w3 φ5 H4 σ4 v (g5.unfixed g.free)
        · have e : k = ds.length := by omega
          subst e
          rw [List.drop_length] at w3
          exact .inl ⟨⟨vs, SqL.of hf, by omega⟩, w3 φ3 H' σ' (g3.drops.unfixed g.free)⟩
      | _ => exact (show False from w).elim
end
end CB

namespace CB
open PySem L2 PySem.Spec PyProof.Rows
variable [CT]
/-! ### methods: list.index, str.join, str.split -/
def dBool : List D → Option (Kd × D)
  | [.int i] => some (.new, .bl (i != 0))
  | [.bl b] => some (.new, .bl b)
  | _ => none
theorem v_bool1 : VN (fun xs H Q => (∃ i, xs = [.int i] ∧ Q (.bl (i != 0)) H) ∨ ∃ k, xs = [.bl k] ∧ Q (.bl k) H) dBool := by
  intro H ds vs as k d Q r hf hq
  match ds, hf with
  | [.int i], hf =>
    cases hf
    obtain ⟨v, rfl, r1⟩ := r.one
    cases r1
    exact .inl ⟨i, rfl, hq _ H [] (Ex.refl H) (.bl _) KdOk.nil⟩
  | [.bl b], hf =>
    cases hf
    obtain ⟨v, rfl, r1⟩ := r.one
    cases r1
    exact .inr ⟨b, rfl, hq _ H [] (Ex.refl H) (.bl _) KdOk.nil⟩
def idxD (ds : List PyData) (d : PyData) : Option Nat := ds.findIdx? fun z => PyData.eqv z d
def lindexP (p q : P) : P := fun env => match p env with
  | .ok _ (.lst xs) => match q env with
    | .ok _ y => if eqOk (.lst xs) && eqOk y then match idxD (dats xs) (dat y) with
        | some j => .ok true (.int (j : Nat))
        | none => .no
      else .no
    | .ex x => .ex x
    | .no => .no
  | .ok _ _ => .no
  | .ex x => .ex x
  | .no => .no
def strsOf : List D → Option (List Str)
  | [] => some []
  | .str s :: r => (strsOf r).map (s :: ·)
  | _ => none
def joinP (p q : P) : P := fun env => match p env with
  | .ok _ (.str a) => match q env with
    | .ok _ (.lst xs) => match strsOf xs with
      | some ys => if decide ((ys.map (·.length)).sum + ys.length * a.length ≤ 1000000) then .ok true (.str (Txt.join a ys)) else .no
      | none => .no
    | .ok _ _ => .no
    | .ex x => .ex x
    | .no => .no
  | .ok _ _ => .no
  | .ex x => .ex x
  | .no => .no
def splitP (p q : P) : P := fun env => match p env with
  | .ok _ (.str a) => match q env with
    | .ok _ (.str b) => if !(b.length == 0) && decide (a.length ≤ 1000000) then .ok true (.lst ((Txt.split a b).map .str)) else .no
    | .ok _ _ => .no
    | .ex x => .ex x
    | .no => .no
  | .ok _ _ => .no
  | .ex x => .ex x
  | .no => .no
section
variable {X : Cx} {E : XK}
theorem strs_vals {H : Hp} : ∀ {xs : List D} {vs : List V} {as : List Addr} {ys : List Str}, Reps H xs vs as → strsOf xs = some ys → vs = ys.map V.str
  | [], _, _, _, .nil, h => by simp only [strsOf] at h; cases h; rfl
  | x :: xs, _, _, ys, .cons r rs, h => by
    cases x with
    | str s =>
      simp only [strsOf] at h
      cases e : strsOf xs with
      | none => rw [e] at h; cases h
      | some zs =>
        rw [e] at h; cases h
        cases r
        rw [strs_vals rs e]; rfl
    | _ => simp [strsOf] at h
theorem reps_strs (H : Hp) : ∀ ys : List Str, Reps H (ys.map D.str) (ys.map V.str) []
  | [] => .nil
  | y :: ys => .cons (.str y) (reps_strs H ys)
theorem snd_lindex {o e : Expr} {p q : P} {apos cpos : Pos} (hu : X.A.units + 65 < cLine) (h : SndP X E o p) (h' : SndP X E e q)
    (hbase : attributeBase o ("index" : Str) X.env (eval o X.env) = eval o X.env := by rfl)
    (hfew : ((backTo cpos (starEach [e] X.env)).all (fun x => !x.1) && (backToKw cpos (keywordEach [] X.env)).all (fun x => x.1.isSome)
      && decide (([e] : List Expr).length + ([] : List Keyword).length + (if ([] : List Keyword).isEmpty then 0 else 1) < 30)) = true := by rfl)
    (hline : (apos.endLine == cpos.line) = true := by rfl) (hs : starEach [e] X.env = (false, eval e X.env) :: starEach [] X.env := by rfl) (hplain : (backTo cpos (starEach [] X.env)).any (·.1) = false := by rfl) :
    SndP X E (.Call (.Attribute o ("index" : Str) apos) [e] [] cpos) (lindexP p q) := by
  obtain ⟨t, h1, h2⟩ := h
  obtain ⟨u, g1, g2⟩ := h'
  refine ⟨_, pe_bm PySem.F.plainAttrs_list PySem.F.slot_list_index PySem.F.type_list_index (mt_indexD hu) h1 (pa_cons g1 pa_nil hs) hbase hfew hline hs hplain, fun S env σ H Q o w => h2 S env σ H _ o ?_⟩
  unfold lindexP at w
  cases hp : p env with
  | no => rw [hp] at w; exact w
  | ex x => rw [hp] at w; exact w
  | ok fa x =>
    rw [hp] at w
    intro v H1 as ex1 r1 m1 n1
    cases r1 with
    | @lst a vs xs _ ha s =>
      simp only at w
      refine ⟨.inl ⟨rfl, vs, SqL.of ha⟩, g2 S env σ H1 _ (o.mono ex1) ?_⟩
      cases hq : q env with
      | no => rw [hq] at w; exact w
      | ex x => rw [hq] at w; exact fun c dx H' e' r => w c dx H' (ex1.trans e') r
      | ok fb y =>
        rw [hq] at w
        intro v2 H2 bs ex2 r2 _ _
        simp only at w
        split at w
        · rename_i hz
          simp only [Bool.and_eq_true] at hz
          cases hi : idxD (dats xs) (dat y) with
          | none => rw [hi] at w; exact w.elim
          | some j =>
            rw [hi] at w
            unfold idxD at hi
            rw [List.findIdx?_eq_some_iff_getElem] at hi
            obtain ⟨hj, hj1, hj2⟩ := hi
            have rl : Rep H2 (.lst xs) (.ref a) (a :: _) := (Rep.lst ha s).mono ex2
            refine ⟨a, v2, dat y, dats xs, j, (dats xs)[j], rfl, rfl, rl.dp (lay_of hz.1), r2.dp (lay_of hz.2), hz.1, hz.2, by simp, hj1, fun m z' hm hz' => ?_, w _ H2 [] (ex1.trans ex2) (.int _) noMem fun _ => .nil H⟩
            have := hj2 m hm
            obtain ⟨hm', e⟩ := List.getElem?_eq_some_iff.mp hz'
            rw [← e]; simpa using this
        · exact w.elim
    | _ => exact (show False from w).elim
theorem snd_join {o e : Expr} {p q : P} {apos cpos : Pos} (h : SndP X E o p) (h' : SndP X E e q)
    (hbase : attributeBase o ("join" : Str) X.env (eval o X.env) = eval o X.env := by rfl)
    (hfew : ((backTo cpos (starEach [e] X.env)).all (fun x => !x.1) && (backToKw cpos (keywordEach [] X.env)).all (fun x => x.1.isSome)
      && decide (([e] : List Expr).length + ([] : List Keyword).length + (if ([] : List Keyword).isEmpty then 0 else 1) < 30)) = true := by rfl)
    (hline : (apos.endLine == cpos.line) = true := by rfl) (hs : starEach [e] X.env = (false, eval e X.env) :: starEach [] X.env := by rfl) (hplain : (backTo cpos (starEach [] X.env)).any (·.1) = false := by rfl) :
    SndP X E (.Call (.Attribute o ("join" : Str) apos) [e] [] cpos) (joinP p q) := by
  obtain ⟨t, h1, h2⟩ := h
  obtain ⟨u, g1, g2⟩ := h'
  refine ⟨_, pe_bm PySem.F.plainAttrs_str PySem.F.slot_str_join PySem.F.type_str_join mt_join h1 (pa_cons g1 pa_nil hs) hbase hfew hline hs hplain, fun S env σ H Q o w => h2 S env σ H _ o ?_⟩
  unfold joinP at w
  cases hp : p env with
  | no => rw [hp] at w; exact w
  | ex x => rw [hp] at w; exact w
  | ok fa x =>
    rw [hp] at w
    intro v H1 as ex1 r1 m1 n1
    cases r1 with
    | str a =>
      simp only at w
      refine ⟨rfl, g2 S env σ H1 _ (o.mono ex1) ?_⟩
      cases hq : q env with
      | no => rw [hq] at w; exact w
      | ex x => rw [hq] at w; exact fun c dx H' e' r => w c dx H' (ex1.trans e') r
      | ok fb y =>
        rw [hq] at w
        intro v2 H2 bs ex2 r2 _ _
        cases r2 with
        | @lst b vs xs _ hb s =>
          simp only at w
          cases hi : strsOf xs with
          | none => rw [hi] at w; exact w.elim
          | some ys =>
            rw [hi] at w
            simp only at w
            split at w
            · rename_i hz
              have hz := of_decide_eq_true hz
              have ev := strs_vals s hi
              subst ev
              exact ⟨a, b, ys, rfl, rfl, .inl (SqL.of hb), Nat.le_trans hz (by decide), w _ H2 [] (ex1.trans ex2) (.str _) noMem fun _ => .nil H⟩
            · exact w.elim
        | _ => exact (show False from w).elim
    | _ => exact (show False from w).elim
theorem snd_split {o e : Expr} {p q : P} {apos cpos : Pos} (h : SndP X E o p) (h' : SndP X E e q)
    (hbase : attributeBase o ("split" : Str) X.env (eval o X.env) = eval o X.env := by rfl)
    (hfew : ((backTo cpos (starEach [e] X.env)).all (fun x => !x.1) && (backToKw cpos (keywordEach [] X.env)).all (fun x => x.1.isSome)
      && decide (([e] : List Expr).length + ([] : List Keyword).length + (if ([] : List Keyword).isEmpty then 0 else 1) < 30)) = true := by rfl)
    (hline : (apos.endLine == cpos.line) = true := by rfl) (hs : starEach [e] X.env = (false, eval e X.env) :: starEach [] X.env := by rfl) (hplain : (backTo cpos (starEach [] X.env)).any (·.1) = false := by rfl) :
    SndP X E (.Call (.Attribute o ("split" : Str) apos) [e] [] cpos) (splitP p q) := by
  obtain ⟨t, h1, h2⟩ := h
  obtain ⟨u, g1, g2⟩ := h'
  refine ⟨_, pe_bm PySem.F.plainAttrs_str PySem.F.slot_str_split PySem.F.type_str_split mt_split h1 (pa_cons g1 pa_nil hs) hbase hfew hline hs hplain, fun S env σ H Q o w => h2 S env σ H _ o ?_⟩
  unfold splitP at w
  cases hp : p env with
  | no => rw [hp] at w; exact w
  | ex x => rw [hp] at w; exact w
  | ok fa x =>
    rw [hp] at w
    intro v H1 as ex1 r1 m1 n1
    cases r1 with
    | str a =>
      simp only at w
      refine ⟨rfl, g2 S env σ H1 _ (o.mono ex1) ?_⟩
      cases hq : q env with
      | no => rw [hq] at w; exact w
      | ex x => rw [hq] at w; exact fun c dx H' e' r => w c dx H' (ex1.trans e') r
      | ok fb y =>
        rw [hq] at w
        intro v2 H2 bs ex2 r2 _ _
        cases r2 with
        | str b =>
          simp only at w
          split at w
          · rename_i hz
            simp only [Bool.and_eq_true, Bool.not_eq_true', decide_eq_true_eq] at hz
            refine ⟨a, b, rfl, rfl, hz.1, by rw [sizeLine_eq]; omega, fun p hp => ?_⟩
            have e3 := ex1.trans ex2
            exact w _ _ [p] (e3.trans (Ex.new hp)) (.lst upd_same (reps_strs _ _)) (fun a m => by simp at m; rw [m]; exact .inr (e3.back hp)) fun _ => ⟨by simp, fun a m => by simp at m; rw [m]; exact e3.back hp⟩
          · exact w.elim
        | _ => exact (show False from w).elim
    | _ => exact (show False from w).elim
end
end CB

namespace CB
open PySem L2 PySem.Spec PyProof.Rows
variable [CT]
/-! ### a built-in that takes what it gets for its own -/
section
variable {X : Cx} {E : XK}
theorem snde_linB {x : Str} {id : String} {e : Expr} {es : List Expr} {ms : List GA} {p pos : Pos} {r : List V → Hp → VK → Prop} {f : List D → Option (Kd × D)} (hc : CallR X (.builtin id) r) (hv : VN r f) (hg : Gl X x) (hm : X.mg x = none) (hb : bootBuiltins x = some (.builtin id)) (h : SndAG X E (e :: es) ms)
    (hn : x ≠ "__name__" := by decide) (hdb : (x == ("__debug__" : Str)) = false := by decide) (he : starEach (e :: es) X.env = (false, eval e X.env) :: starEach es X.env := by rfl) (hpl : (backTo pos (starEach es X.env)).any (·.1) = false := by rfl) : SndE X E (.Call (.Name x p) (e :: es) [] pos) (linG f ms) := by
  obtain ⟨t, h1, h2⟩ := h
  exact ⟨_, pe_callB hc hg hm hb h1 hn hdb he hpl, fun M N fx pin φ H env σ ts Q g w => h2 M N fx pin φ H env σ ts _ g (linG_read hv ms w)⟩
end
/-! ### d[k] = d.get(k, []) + [..] -/
section
variable {M N : Addr → Prop} {fx : Addr → HO → Prop} {pin : Nat → Option V} {φ : Lab} {H H' : Hp} {env : Env} {σ : L2.St} {ts : List Tmp}
/-- new nodes get a label -/
theorem Good.label (g : Good M N fx pin φ H env σ ts) (e : Ex H H') {as : List Addr} (n : ∀ a ∈ as, H a = none) (t : ∀ a ∈ as, ∃ o, H' a = some o ∧ Imm o = false) : Good M N fx pin (lbl φ as (.tmp ts.length)) H' env σ ts := by
  have g' := g.ext e
  have kp : ∀ {l : Lb} {o : Bool} {d : D} {v : V}, Held φ H M l o d v → Held (lbl φ as (.tmp ts.length)) H' M l o d v := fun {l o d v} k => k.keep fun bs rb q => ⟨rb.mono e, fun a ha => by
    have : a ∉ as := fun z => rb.ne a ha (n a z)
    unfold lbl
    rw [if_neg this]
    exact q a ha⟩
  refine ⟨g.len, fun a o h => ⟨(g'.fix a o h).1, ?_⟩, fun a h => ?_, g.free, fun i s h => (g.slot i s h).keep fun o d v k => kp k, fun j t h => kp (g.tmp j t h)⟩
  · have : a ∉ as := fun z => by
      have := (g.fix a o h).1
      rw [n a z] at this; cases this
    unfold lbl
    rw [if_neg this]
    exact (g.fix a o h).2
  · by_cases z : a ∈ as
    · exact ⟨(g.fresh (n a z)).1, t a z⟩
    · unfold lbl at h
      rw [if_neg z] at h
      exact g'.own a h
theorem dput_some {H : Hp} : ∀ {xs : Ents} {ds : List D} {vs : List V} {as : List Addr} {k : List Int} {d0 : D}, L2.Vals vs (xs.map (·.2.2)) → Reps H ds vs as → dval (xs.map (·.1)) ds k = some d0 →
    ∃ p v0 ys cs es, atKey xs k = some p ∧ L2.RelV v0 p.2 ∧ Rep H d0 v0 ys ∧ as = cs ++ ys ++ es ∧ ∀ (H' : Hp) (d : D) (v : V) (bs : List Addr), (∀ a o, H a = some o → (a ∈ cs ++ es ∨ Imm o = true) → H' a = some o) → Rep H' d v bs → Reps H' (CB.vput (xs.map (·.1)) ds k d) (CB.vput (xs.map (·.1)) vs k v) (cs ++ bs ++ es)
  | [], _, _, _, _, _, _, _, h => by simp [dval] at h
  | x :: xs, _, _, _, k, d0, .cons hv hvs, .cons (as := as) (bs := bs) r rs, h => by
    simp only [List.map_cons, dval] at h
    rw [atKey_cons]
    by_cases e : x.1 = k
    · rw [if_pos e] at h; cases h
      rw [if_pos e]
      refine ⟨x.2, _, as, [], bs, rfl, hv, r, by simp, fun H' d v cs hk rd => ?_⟩
      simp only [List.map_cons, CB.vput, if_pos e]
      exact .cons rd (rs.keep fun a o ha hi => hk a o ha (hi.imp_left fun z => by simpa using z))
    · rw [if_neg e] at h
      rw [if_neg e]
      obtain ⟨p, v0, ys, cs, es, h1, h2, h3, h4, h5⟩ := dput_some (k := k) hvs rs h
      refine ⟨p, v0, ys, as ++ cs, es, h1, h2, h3, by rw [h4]; simp [List.append_assoc], fun H' d v bs' hk rd => ?_⟩
      simp only [List.map_cons, CB.vput, if_neg e]
      have := Reps.cons (r.keep fun a o ha hi => hk a o ha (hi.imp_left fun z => by simp [z])) (h5 H' d v bs' (fun a o ha hi => hk a o ha (hi.imp_left fun z => by simp only [List.mem_append] at z ⊢; rcases z with z | z <;> simp [z])) rd)
      simpa [List.append_assoc] using this
theorem dput_none {H : Hp} {d : D} {v : V} {bs : List Addr} : ∀ {xs : Ents} {ds : List D} {vs : List V} {as : List Addr} {k : List Int}, L2.Vals vs (xs.map (·.2.2)) → dval (xs.map (·.1)) ds k = none → Reps H ds vs as → Rep H d v bs →
    Reps H (CB.vput (xs.map (·.1)) ds k d) (CB.vput (xs.map (·.1)) vs k v) (as ++ bs)
  | [], _, _, _, _, .nil, _, .nil, rd => by simpa [CB.vput] using Reps.cons rd .nil
  | x :: xs, _, _, _, k, .cons hv hvs, h, .cons (as := as) (bs := bs) r rs, rd => by
    simp only [List.map_cons, dval] at h
    by_cases e : x.1 = k
    · rw [if_pos e] at h; cases h
    · rw [if_neg e] at h
      simp only [List.map_cons, CB.vput, if_neg e]
      have := Reps.cons r (dput_none (k := k) hvs h rs rd)
      simpa [List.append_assoc] using this
end
def setdApp (i : Nat) (kp lp : P) : SM := fun env => match myDic env i with
  | some (s, ks, vs) => match kp env with
    | .ok _ y => match keyOf y with
      | some k => match lp env with
        | .ok true (.lst ys) => if szOk ks.length then (match dval ks vs k with
            | some (.lst old) => if szOk (old.length + ys.length) then .nx (env.set i (s.put (.dic (kput ks k) (vput ks vs k (.lst (old ++ ys)))))) else .no
            | none => if szOk ys.length then .nx (env.set i (s.put (.dic (kput ks k) (vput ks vs k (.lst ys))))) else .no
            | _ => .no) else .no
        | _ => .no
      | none => .no
    | _ => .no
  | none => .no
section
variable {X : Cx} {E : XK}
theorem dAdd_lst {xs ys : List D} (h : szOk (xs.length + ys.length) = true) : ∃ k, dAdd (.lst xs) (.lst ys) = some (k, .lst (xs ++ ys)) ∧ (k = .new ∨ k = .lin) := by
  simp only [dAdd, h, if_true]
  split
  · exact ⟨_, rfl, .inl rfl⟩
  · exact ⟨_, rfl, .inr rfl⟩
theorem snds_setdApp {i : Nat} {x : Str} {ek e0 el ix : Expr} {kp lp : P} {px px2 ps apos cpos bpos pos : Pos} (hu : X.A.units + 1 < cLine) (hN : X.N[i]? = some x) (hvx : Vis X.env.scope x) (hk1 : SndP X E ek kp) (h0 : SndP X E e0 (opN dLst [])) (hl : SndP X E el lp) (hk2 : SndP X E ix kp)
    (hbase : attributeBase (.Name x px2) "get" X.env (eval (.Name x px2) X.env) = eval (.Name x px2) X.env := by rfl)
    (hfew : ((backTo cpos (starEach [ek, e0] X.env)).all (fun x => !x.1) && (backToKw cpos (keywordEach [] X.env)).all (fun x => x.1.isSome)
    && decide (([ek, e0] : List Expr).length + ([] : List Keyword).length + (if ([] : List Keyword).isEmpty then 0 else 1) < 30)) = true := by rfl)
    (hline : (apos.endLine == cpos.line) = true := by rfl) (htr : backTo cpos (starEach [ek, e0] X.env) = [(false, eval ek X.env), (false, eval e0 X.env)] := by rfl)
    (ha : ∀ v, assign (.Subscript (.Name x px) ix ps) X.env v = (do
      let ov ← holding [v] (eval (.Name x px) X.env)
      let iv ← holding [v, ov] (eval ix X.env)
      standAt ps
      holding [v, ov, iv] (setItem ov iv v)
      release [v, ov, iv] []) := by intro _; rfl)
    (hs : swapsWithSole [.Subscript (.Name x px) ix ps] (.BinOp (.Call (.Attribute (.Name x px2) "get" apos) [ek, e0] [] cpos) .Add el bpos) pos.line X.env = pure false := by rfl) (hw : swappedStores [.Subscript (.Name x px) ix ps] (.BinOp (.Call (.Attribute (.Name x px2) "get" apos) [ek, e0] [] cpos) .Add el bpos) X.env = pure none := by rfl)
    (h1 : (assignEach [.Subscript (.Name x px) ix ps] X.env).map (·.2) = [assign (.Subscript (.Name x px) ix ps) X.env] := by rfl)
    (hd : (x == ("__debug__" : Str)) = false := by decide) (hcd : (x == ("__classdict__" : Str)) = false := by decide) :
    SndS X E (.Assign [.Subscript (.Name x px) ix ps] (.BinOp (.Call (.Attribute (.Name x px2) "get" apos) [ek, e0] [] cpos) .Add el bpos) pos) (setdApp i kp lp) := by
  obtain ⟨tk, k1, k2⟩ := hk1
  obtain ⟨ti, i1, i2⟩ := hk2
  obtain ⟨t0, z1, z2⟩ := h0
  obtain ⟨tl, l1, l2⟩ := hl
  refine ⟨_, ps_asg (pe_op op_addA (pe_dgetI hu (pe_var hN hvx hd hcd) k1 z1 ⟨hbase, hfew, hline, htr⟩) l1) (pg_sub (pe_var hN hvx hd hcd) i1 (set_dic hu) ha) hs hw h1, fun M N fx pin φ H env σ ts K g w => ?_⟩
  unfold setdApp at w
  cases hy : myDic env i with
  | none => rw [hy] at w; exact w.elim
  | some sk =>
    obtain ⟨s, ks, ds⟩ := sk
    rw [hy] at w
    simp only at w
    cases hp : kp env with
    | no => rw [hp] at w; exact w.elim
    | ex x => rw [hp] at w; exact w.elim
    | ok fk dk =>
      rw [hp] at w
      simp only at w
      cases hk : keyOf dk with
      | none => rw [hk] at w; exact w.elim
      | some k =>
        rw [hk] at w
        simp only at w
        cases hq : lp env with
        | no => rw [hq] at w; exact w.elim
        | ex x => rw [hq] at w; exact w.elim
        | ok fl dl =>
          rw [hq] at w
          cases fl with
          | false => exact (show False from w).elim
          | true => cases dl with
            | lst ys =>
              simp only at w
              split at w
              · rename_i hsz
                obtain ⟨a, oa, es, ep, xs, vs, as, e0, e1, e2, e3, e4, e5, e6, ei, ev, e7, e8, e9, e10⟩ := myDic_ok g hy
                have hno := List.nodup_cons.mp e9
                -- what is behind the sum
                have fin : ∀ {old : List D} {d' : List D} {vg : V} {og : List Addr} {H2 : Hp}, Ex H H2 → Rep H2 (.lst old) vg og → og.Nodup → (∀ c ∈ og, c ∈ as ∨ H c = none) → szOk (old.length + ys.length) = true → d' = old ++ ys → SWant M N fx pin X.mg ts E K (.nx (env.set i (s.put (.dic (kput ks k) (CB.vput ks ds k (.lst d')))))) →
                    (∃ cs es2, (∀ b ∈ cs ++ es2, b ∈ as) ∧ (cs ++ es2).Nodup ∧ (∀ b ∈ og, b ∉ cs ++ es2) ∧ ∀ (H' : Hp) (d : D) (v : V) (bs : List Addr), (∀ a o, H a = some o → (a ∈ cs ++ es2 ∨ Imm o = true) → H' a = some o) → Rep H' d v bs → Reps H' (CB.vput (xs.map (·.1)) ds k d) (CB.vput (xs.map (·.1)) vs k v) (cs ++ bs ++ es2)) →
                    tl σ H2 fun y H3 => rAddA X.K vg y H3 fun v H4 => ∃ ov, σ[i]? = some (some ov) ∧ ti σ H4 fun iv H5 => rSetD ov iv v H5 fun H6 => K.nx σ H6 := by
                  intro old d' vg og H2 ex2 rg ng mg hz hd' w ⟨cs, es2, c1, c2, c3, c4⟩
                  subst hd'
                  refine l2 M env σ H2 _ (g.ext ex2).obs ?_
                  rw [hq]
                  intro vl H3 bl ex3 rl ml nl
                  have nbl := nl rfl
                  obtain ⟨kd, hf, hkd⟩ := dAdd_lst hz
                  refine (v_add X.K) H3 _ _ vg vl og bl kd _ _ (rg.mono ex3) rl hf fun u H4 qs ex4 r4 kk => ?_
                  have exH3 := ex2.trans ex3
                  have exH4 := exH3.trans ex4
                  have nblH : ∀ b ∈ bl, H b = none := fun b hb => ex2.back (nbl.2 b hb)
                  have hqs : ∀ c ∈ qs, H c = none ∨ c ∈ og := fun c hc => by
                    rcases kk.1 c hc with z | z
                    · exact .inl (exH3.back z)
                    · rcases List.mem_append.mp z with z | z
                      · exact .inr z
                      · exact .inl (nblH c z)
                  have nqs : qs.Nodup := by
                    rcases hkd with rfl | rfl
                    · exact kk.2.1
                    · refine kk.2 (List.nodup_append.mpr ⟨ng, nbl.1, fun b hb b' hb' q => ?_⟩)
                      subst q
                      exact rg.ne b hb (nbl.2 b hb')
                  have hnew : ∀ c ∈ qs.filter (fun c => decide (H c = none)), H c = none := fun c hc => by simpa using (List.mem_filter.mp hc).2
                  have g4 := g.label exH4 hnew fun c hc => r4.there c (List.mem_filter.mp hc).1
                  have lab : ∀ c ∈ qs, M c ∧ (lbl φ (qs.filter fun c => decide (H c = none)) (.tmp ts.length) c = some (.slot i) ∨ lbl φ (qs.filter fun c => decide (H c = none)) (.tmp ts.length) c = some (.tmp ts.length)) := fun c hc => by
                    by_cases z : H c = none
                    · refine ⟨(g.fresh z).2, .inr ?_⟩
                      unfold lbl
                      rw [if_pos (List.mem_filter.mpr ⟨hc, decide_eq_true z⟩)]
                    · have ho : c ∈ og := (hqs c hc).elim (fun y => absurd y z) id
                      have ha : c ∈ as := (mg c ho).elim id fun y => absurd y z
                      refine ⟨(e10 c ha).1, .inl ?_⟩
                      unfold lbl
                      rw [if_neg fun y => z (by simpa using (List.mem_filter.mp y).2)]
                      exact (e10 c ha).2
                  refine ⟨.ref a, e3, i2 M env σ H4 _ g4.obs ?_⟩
                  rw [hp]
                  intro vk2 H5 bk2 ex5 rk2 _ _
                  have g5 := g4.ext ex5
                  obtain ⟨b, q, y1, y2, y3, y4⟩ := rk2.key hk
                  subst y1 y4
                  obtain ⟨a', oa', es', ep', xs', vs', as', f0, f1, f2, f3, f4, f5, f6, fi, fv, f7, f8, f9, f10⟩ := myDic_ok g5 hy
                  rw [e3] at f3; cases f3
                  have e65 : H5 a = some (dO a oa) := ex5 _ _ (exH4 _ _ e6)
                  have i5 : IsDic H5 a oa es ep xs := ei.keep fun c q u h => ex5 c _ (exH4 c _ h)
                  have haq : a ∉ qs := fun z => by
                    have := hqs a z
                    rcases this with z | z
                    · rw [e6] at z; cases z
                    · rcases mg a z with y | y
                      · exact hno.1 y
                      · rw [e6] at y; cases y
                  have hac : a ∉ cs ++ es2 := fun z => hno.1 (c1 a z)
                  have nd3 : (cs ++ qs ++ es2).Nodup := by
                    have n := List.nodup_append.mp c2
                    have dj : ∀ b ∈ cs ++ es2, b ∉ qs := fun b hb hq => by
                      rcases hqs b hq with z | z
                      · exact (e8.there b (c1 b hb)).elim fun o ho => by rw [z] at ho; cases ho.1
                      · exact c3 b z hb
                    rw [List.append_assoc]
                    refine nodup_snoc n.1 (nodup_snoc nqs n.2.1 fun b hb hb2 => dj b (List.mem_append_right _ hb2) hb) fun b hb hb2 => ?_
                    rcases List.mem_append.mp hb2 with z | z
                    · exact dj b (List.mem_append_left _ hb) z
                    · exact n.2.2 b hb b z rfl
                  have naa : a ∉ cs ++ qs ++ es2 := fun z => by
                    simp only [List.mem_append] at z
                    rcases z with (z | z) | z
                    · exact hac (List.mem_append_left _ z)
                    · exact haq z
                    · exact hac (List.mem_append_right _ z)
                  refine ⟨a, b, xs, k, rfl, rfl, ⟨⟨oa, es, ep, e65, i5⟩, q, y2⟩, ⟨q, y2, y3⟩, by rw [e0, List.length_map] at hsz; exact szOk_lt hsz, fun o2 es3 ep3 u2 ru id2 => ?_⟩
                  have kpx : ∀ c u, H5 c = some u → c ≠ a → upd H5 a (dO a o2) c = some u := fun c u h ne => by rw [upd_ne ne]; exact h
                  have r5 : Rep (upd H5 a (dO a o2)) (.lst (old ++ ys)) u qs := (r4.mono ex5).keep fun c o hc hi => kpx c o hc fun z => by
                    subst z
                    rcases hi with z | z
                    · exact haq z
                    · rw [e65] at hc; cases hc; cases z
                  have rr : Rep (upd H5 a (dO a o2)) (.dic (kput ks k) (CB.vput ks ds k (.lst (old ++ ys)))) (.ref a) (a :: (cs ++ qs ++ es2)) := by
                    have := Rep.dic (H := upd H5 a (dO a o2)) upd_same id2 (stored_vals ru ei.nd ev) (c4 (upd H5 a (dO a o2)) _ u qs (fun c o hc hi => kpx c o (ex5 _ _ (exH4 _ _ hc)) fun z => by
                      subst z
                      rcases hi with z | z
                      · exact hac z
                      · rw [e6] at hc; cases hc; cases z) r5)
                    rw [stored_keys ei.nd, ← e0] at this
                    exact this
                  have gg := Good.mut (us := []) (bs := []) (rs := none) (as := a :: (cs ++ qs ++ es2)) (by simpa using g5) f1 f2 e3 f4 f5 e65 rr (List.nodup_cons.mpr ⟨naa, nd3⟩) (fun b hb => ⟨by simp, ?_⟩) (fun d w e => nomatch e) List.nodup_nil fun b z => nomatch z
                  · exact w _ _ _ (by simpa using gg)
                  · have old' : ∀ {c : Addr} {o : HO}, H c = some o → φ c = some (.slot i) → lbl φ (qs.filter fun c => decide (H c = none)) (.tmp ts.length) c = some (.slot i) := fun {c o} h1 h2 => by
                      unfold lbl
                      rw [if_neg fun y => by have := (List.mem_filter.mp y).2; simp [h1] at this]
                      exact h2
                    have h2 : ∀ c ∈ as, M c ∧ (lbl φ (qs.filter fun c => decide (H c = none)) (.tmp ts.length) c = some (.slot i) ∨ lbl φ (qs.filter fun c => decide (H c = none)) (.tmp ts.length) c = some (.tmp ts.length)) := fun c hc => by
                      obtain ⟨o, ho, _⟩ := e8.there c hc
                      exact ⟨(e10 c hc).1, .inl (old' ho (e10 c hc).2)⟩
                    rcases List.mem_cons.mp hb with z | z
                    · subst z; exact ⟨e7, .inl (old' e6 e5)⟩
                    · simp only [List.mem_append] at z
                      rcases z with (z | z) | z
                      · exact h2 b (c1 b (List.mem_append_left _ z))
                      · exact lab b z
                      · exact h2 b (c1 b (List.mem_append_right _ z))
                refine ⟨.ref a, e3, a, oa, rfl, e6, ei.ex, k2 M env σ H _ g.obs ?_⟩
                rw [hp]
                intro vk H1 bk ex1 rk _ _
                have g1 := g.ext ex1
                refine z2 M env σ H1 _ g1.obs ?_
                intro v0 H2 b0 ex2 r0 m0 n0
                have exH := ex1.trans ex2
                obtain ⟨bb, q, y1, y2, y3, y4⟩ := (rk.mono ex2).key hk
                subst y1 y4
                have i2' : IsDic H2 a oa es ep xs := ei.keep fun c q u h => exH c _ h
                have dk : DKey H2 a bb xs k := ⟨⟨oa, es, ep, exH _ _ e6, i2'⟩, q, y2⟩
                cases hd : dval ks ds k with
                | none =>
                  rw [hd] at w
                  simp only at w
                  split at w
                  · rename_i hz
                    rw [e0] at hd
                    refine ⟨bb, xs, k, rfl, dk, .inl ⟨dval_none (by have := ev.length; rw [e8.length]; simpa using this) hd, ?_⟩⟩
                    refine fin exH r0 (n0 rfl).1 (fun c hc => .inr (ex1.back ((n0 rfl).2 c hc))) (by simpa using hz) rfl w ⟨as, [], by simp, by simpa using hno.2, fun b hb z => ?_, fun H' d v bs hk' rd => ?_⟩
                    · obtain ⟨o, ho, _⟩ := e8.there b (by simpa using z)
                      rw [ex1.back ((n0 rfl).2 b hb)] at ho; cases ho
                    · simpa using dput_none (k := k) ev hd (e8.keep fun c o hc hi => hk' c o hc (hi.imp_left fun z => by simpa using z)) rd
                  · exact w.elim
                | some d0 => cases d0 with
                  | lst old =>
                    rw [hd] at w
                    simp only at w
                    split at w
                    · rename_i hz
                      rw [e0] at hd
                      obtain ⟨p, v1, ys1, cs, es2, f1, f2, f3, f4, f5⟩ := dput_some ev e8 hd
                      have nd := hno.2
                      rw [f4] at nd
                      have nd2 := List.nodup_append.mp nd
                      have nd3 := List.nodup_append.mp nd2.1
                      refine ⟨bb, xs, k, rfl, dk, .inr ⟨p, v1, f1, f2, ?_⟩⟩
                      refine fin exH (f3.mono exH) nd3.2.1 (fun c hc => .inl (by rw [f4]; simp [hc])) hz rfl w ⟨cs, es2, fun b hb => by rw [f4]; simp only [List.mem_append] at hb ⊢; rcases hb with z | z <;> simp [z], ?_, fun b hb z => ?_, f5⟩
                      · exact List.nodup_append.mpr ⟨nd3.1, nd2.2.1, fun x hx y hy => nd2.2.2 x (List.mem_append_left _ hx) y hy⟩
                      · rcases List.mem_append.mp z with z | z
                        · exact nd3.2.2 b z b hb rfl
                        · exact nd2.2.2 b (List.mem_append_right _ hb) b z rfl
                    · exact w.elim
                  | _ => rw [hd] at w; exact (show False from w).elim
              · exact w.elim
            | _ => exact (show False from w).elim
end
end CB

namespace CB
open PySem L2
/-! ### what is known stays known when the callees know more -/
def Le {α : Type} (b x y : α) : Prop := x = b ∨ y = x
theorem Le.refl {α : Type} {b x : α} : Le b x x := .inr rfl
def leP (p q : P) : Prop := ∀ env, Le PR.no (p env) (q env)
def leF (p q : List D → PR) : Prop := ∀ ds, Le PR.no (p ds) (q ds)
def leRF (p q : List D → RR) : Prop := ∀ ds, Le RR.no (p ds) (q ds)
def leIt (p q : I) : Prop := ∀ env, Le IR.no (p env) (q env)
def leQ (p q : Env → Option (Int × Int)) : Prop := ∀ env, Le none (p env) (q env)
def leG (p q : GE) : Prop := ∀ env, Le GR.no (p env) (q env)
def leS (p q : SM) : Prop := ∀ env, Le SR.no (p env) (q env)
def leIG (p q : IG) : Prop := ∀ env, Le ItR.no (p env) (q env)
inductive lePs : List P → List P → Prop
  | nil : lePs [] []
  | cons {p q : P} {ps qs : List P} : leP p q → lePs ps qs → lePs (p :: ps) (q :: qs)
inductive leGA : GA → GA → Prop
  | ex {m n : GE} : leG m n → leGA (.ex m) (.ex n)
  | vr {i : Nat} : leGA (.vr i) (.vr i)
inductive leGAs : List GA → List GA → Prop
  | nil : leGAs [] []
  | cons {p q : GA} {ps qs : List GA} : leGA p q → leGAs ps qs → leGAs (p :: ps) (q :: qs)
inductive leO : Option P → Option P → Prop
  | none : leO none none
  | some {p q : P} : leP p q → leO (some p) (some q)
theorem leP.refl {p : P} : leP p p := fun _ => .refl
theorem leF.refl {p : List D → PR} : leF p p := fun _ => .refl
theorem leRF.refl {p : List D → RR} : leRF p p := fun _ => .refl
theorem leIt.refl {p : I} : leIt p p := fun _ => .refl
theorem leQ.refl {p : Env → Option (Int × Int)} : leQ p p := fun _ => .refl
theorem leG.refl {p : GE} : leG p p := fun _ => .refl
theorem leS.refl {p : SM} : leS p p := fun _ => .refl
theorem leIG.refl {p : IG} : leIG p p := fun _ => .refl
theorem leF.use {F G : List D → PR} (h : leF F G) {ds : List D} {r : PR} (e : F ds = r) (n : r ≠ .no) : G ds = r := by
  rcases h ds with q | q
  · rw [e] at q; exact (n q).elim
  · rw [q, e]
theorem leRF.use {F G : List D → RR} (h : leRF F G) {ds : List D} {r : RR} (e : F ds = r) (n : r ≠ .no) : G ds = r := by
  rcases h ds with q | q
  · rw [e] at q; exact (n q).elim
  · rw [q, e]
theorem leF.trans {F G K : List D → PR} (a : leF F G) (b : leF G K) : leF F K := fun ds => by
  rcases a ds with q | q
  · exact .inl q
  · rcases b ds with r | r
    · rw [q] at r; exact .inl r
    · rw [q] at r; exact .inr r
theorem bind_le {r r' : PR} {k k' : Bool → D → PR} (h : Le PR.no r r') (hk : ∀ f d, Le PR.no (k f d) (k' f d)) : Le PR.no (r.bind k) (r'.bind k') := by
  rcases h with h | h
  · subst h; exact .inl rfl
  · subst h
    cases r' with
    | ok f d => exact hk f d
    | ex x => exact .inr rfl
    | no => exact .inl rfl
theorem abind_le {r r' : AR} {k k' : Bool → List D → PR} (h : Le AR.no r r') (hk : ∀ f d, Le PR.no (k f d) (k' f d)) : Le PR.no (r.bind k) (r'.bind k') := by
  rcases h with h | h
  · subst h; exact .inl rfl
  · subst h
    cases r' with
    | ok f d => exact hk f d
    | ex x => exact .inr rfl
    | no => exact .inl rfl
theorem args_le : ∀ {ps qs : List P}, lePs ps qs → ∀ env, Le AR.no (args ps env) (args qs env)
  | _, _, .nil, _ => .refl
  | _, _, .cons (p := p) (q := q) h hs, env => by
    simp only [args]
    rcases h env with e | e
    · rw [e]; exact .inl rfl
    · rw [e]
      cases p env with
      | no => exact .inl rfl
      | ex x => exact .inr rfl
      | ok f d =>
        rcases args_le hs env with e | e
        · simp only [e]; exact .inl rfl
        · simp only [e]; exact .inr rfl
variable {a b c a' b' c' : P}
theorem op2_le {f : D → D → Option (Kd × D)} (ha : leP a a') (hb : leP b b') : leP (op2 f a b) (op2 f a' b') := fun env => bind_le (ha env) fun _ _ => bind_le (hb env) fun _ _ => .refl
theorem op1_le {f : D → Option (Kd × D)} (ha : leP a a') : leP (op1 f a) (op1 f a') := fun env => bind_le (ha env) fun _ _ => .refl
theorem opN_le {f : List D → Option (Kd × D)} {ps qs : List P} (h : lePs ps qs) : leP (opN f ps) (opN f qs) := fun env => abind_le (args_le h env) fun _ _ => .refl
theorem callP_le {F G : List D → PR} {ps qs : List P} (hF : leF F G) (h : lePs ps qs) : leP (callP F ps) (callP G qs) := fun env => abind_le (args_le h env) fun _ ds => hF ds
theorem andP_le (ha : leP a a') (hb : leP b b') : leP (andP a b) (andP a' b') := fun env => bind_le (ha env) fun _ d => by
  cases d with
  | bl x => cases x <;> first | exact hb env | exact .refl
  | _ => exact .refl
theorem orP_le (ha : leP a a') (hb : leP b b') : leP (orP a b) (orP a' b') := fun env => bind_le (ha env) fun _ d => by
  cases d with
  | bl x => cases x <;> first | exact hb env | exact .refl
  | _ => exact .refl
theorem notP_le (ha : leP a a') : leP (notP a) (notP a') := fun env => bind_le (ha env) fun _ d => .refl
theorem ifP_le (hc : leP c c') (ha : leP a a') (hb : leP b b') : leP (ifP c a b) (ifP c' a' b') := fun env => bind_le (hc env) fun _ d => by
  cases d with
  | bl x => cases x <;> first | exact ha env | exact hb env
  | _ => exact .refl
theorem chP_le {f g : D → D → Option (Kd × D)} (ha : leP a a') (hb : leP b b') (hc : leP c c') : leP (chP f g a b c) (chP f g a' b' c') := fun env => bind_le (ha env) fun _ x => bind_le (hb env) fun _ y => by
  split
  · exact bind_le (hc env) fun _ _ => .refl
  · exact .refl
  · exact .refl
theorem slHi_le {f : Bool} {x : D} {l : Option Int} {p q : Option P} (h : leO p q) (env : Env) : Le PR.no (slHi f x l p env) (slHi f x l q env) := by
  cases h with
  | none => exact .refl
  | some h => exact bind_le (h env) fun _ _ => .refl
theorem sliceP_le {l u l' u' : Option P} (ha : leP a a') (hl : leO l l') (hu : leO u u') : leP (sliceP a l u) (sliceP a' l' u') := fun env => by
  cases hl with
  | none => exact bind_le (ha env) fun f x => slHi_le hu env
  | some h =>
    refine bind_le (ha env) fun f x => bind_le (h env) fun g y => ?_
    cases y <;> first | exact slHi_le hu env | exact .refl
theorem revP_le (ha : leP a a') : leP (revP a) (revP a') := fun env => by
  simp only [revP]
  rcases ha env with e | e
  · rw [e]; exact .inl rfl
  · rw [e]; exact .refl
theorem rg1_le (ha : leP a a') : leQ (rg1 a) (rg1 a') := fun env => by
  simp only [rg1]
  rcases ha env with e | e
  · rw [e]; exact .inl rfl
  · rw [e]; exact .refl
theorem rg2_le (ha : leP a a') (hb : leP b b') : leQ (rg2 a b) (rg2 a' b') := fun env => by
  simp only [rg2]
  rcases ha env with e | e
  · rw [e]; exact .inl rfl
  · rw [e]
    rcases hb env with e | e
    · rw [e]; left; cases a env with
      | ok f d => cases d <;> rfl
      | _ => rfl
    · rw [e]; exact .refl
theorem lstRg_le {q q' : Env → Option (Int × Int)} (h : leQ q q') : leP (lstRg q) (lstRg q') := fun env => by
  simp only [lstRg]
  rcases h env with e | e
  · rw [e]; exact .inl rfl
  · rw [e]; exact .refl
theorem tupRg_le {q q' : Env → Option (Int × Int)} (h : leQ q q') : leP (tupRg q) (tupRg q') := fun env => by
  simp only [tupRg]
  rcases h env with e | e
  · rw [e]; exact .inl rfl
  · rw [e]; exact .refl
theorem tupRR_le {q q' : Env → Option (Int × Int)} (h : leQ q q') : leP (tupRR q) (tupRR q') := fun env => by
  simp only [tupRR]
  rcases h env with e | e
  · rw [e]; exact .inl rfl
  · rw [e]; exact .refl
theorem tindexP_le (ha : leP a a') (hb : leP b b') : leP (tindexP a b) (tindexP a' b') := fun env => by
  simp only [tindexP]
  rcases ha env with e | e
  · rw [e]; exact .inl rfl
  · rw [e]
    rcases hb env with e | e
    · rw [e]
      cases a env with
      | ok f d => cases d <;> exact .inl rfl
      | _ => exact .refl
    · rw [e]; exact .refl
/-! iterators -/
theorem iseq_le (ha : leP a a') : leIt (iseq a) (iseq a') := fun env => by
  simp only [iseq]
  rcases ha env with e | e
  · rw [e]; exact .inl rfl
  · rw [e]; exact .refl
theorem irange1_le (ha : leP a a') : leIt (irange1 a) (irange1 a') := fun env => by
  simp only [irange1]
  rcases ha env with e | e
  · rw [e]; exact .inl rfl
  · rw [e]; exact .refl
theorem irange2_le (ha : leP a a') (hb : leP b b') : leIt (irange2 a b) (irange2 a' b') := fun env => by
  simp only [irange2]
  rcases ha env with e | e
  · rw [e]; exact .inl rfl
  · rw [e]
    rcases hb env with e | e
    · rw [e]
      cases a env with
      | ok f d => cases d <;> exact .inl rfl
      | _ => exact .refl
    · rw [e]; exact .refl
theorem irev_le (ha : leP a a') : leIt (irev a) (irev a') := fun env => by
  simp only [irev]
  rcases ha env with e | e
  · rw [e]; exact .inl rfl
  · rw [e]; exact .refl
theorem irevR_le {q q' : Env → Option (Int × Int)} (h : leQ q q') : leIt (irevR q) (irevR q') := fun env => by
  simp only [irevR]
  rcases h env with e | e
  · rw [e]; exact .inl rfl
  · rw [e]; exact .refl
theorem izip_le (ha : leP a a') (hb : leP b b') : leIt (izip a b) (izip a' b') := fun env => by
  simp only [izip]
  rcases args_le (.cons ha (.cons hb .nil)) env with e | e
  · rw [e]; exact .inl rfl
  · rw [e]; exact .refl
theorem ienumA_le (ha : leP a a') : leIt (ienumA a) (ienumA a') := fun env => by
  simp only [ienumA]
  rcases ha env with e | e
  · rw [e]; exact .inl rfl
  · rw [e]; exact .refl
/-! comprehensions -/
theorem compL_le {τ : Tgt} {t t' el el' : P} (ht : leP t t') (he : leP el el') (env : Env) : ∀ ds, Le AR.no (compL τ t el env ds) (compL τ t' el' env ds)
  | [] => .refl
  | d :: ds => by
    simp only [compL]
    cases bindT τ d env with
    | none => exact .refl
    | some e1 =>
      simp only
      rcases ht e1 with e | e
      · rw [e]; exact .inl rfl
      · rw [e]
        have ih := compL_le (τ := τ) ht he env ds
        cases t e1 with
        | no => exact .refl
        | ex x => exact .refl
        | ok f y =>
          cases y with
          | bl v =>
            cases v with
            | false => exact ih
            | true =>
              simp only
              rcases he e1 with e | e
              · rw [e]; exact .inl rfl
              · rw [e]
                cases el e1 with
                | no => exact .refl
                | ex x => exact .refl
                | ok g z =>
                  simp only
                  rcases ih with e | e
                  · rw [e]; exact .inl rfl
                  · rw [e]; exact .refl
          | _ => exact .refl
theorem comp_le {vs : List Nat} {τ : Tgt} {ι ι' : I} {t t' el el' : P} (hi : leIt ι ι') (ht : leP t t') (he : leP el el') : leP (comp vs τ ι t el) (comp vs τ ι' t' el') := fun env => by
  simp only [comp]
  rcases hi env with e | e
  · rw [e]; exact .inl rfl
  · rw [e]
    cases ι env with
    | no => exact .refl
    | ex x => exact .refl
    | ok f ds =>
      simp only
      split
      · rcases compL_le (τ := τ) ht he (wipeE env vs) ds with e | e
        · rw [e]; exact .inl rfl
        · rw [e]; exact .refl
      · exact .refl
/-! expressions that may change things -/
theorem lift_le {ks : List Nat} (ha : leP a a') : leG (lift ks a) (lift ks a') := fun env => by
  simp only [lift]
  rcases ha env with e | e
  · rw [e]; exact .inl rfl
  · rw [e]
    cases a env with
    | no => exact .refl
    | ex x => exact .refl
    | ok f d =>
      simp only
      split
      · exact .refl
      · rcases ha (hide ks 0 env) with e | e
        · rw [e]; exact .inl rfl
        · rw [e]; exact .refl
theorem liftT_le (ha : leP a a') : leG (liftT a) (liftT a') := fun env => by
  simp only [liftT]
  rcases ha env with e | e
  · rw [e]; exact .inl rfl
  · rw [e]; exact .refl
theorem argsG_le : ∀ {ms ns : List GA}, leGAs ms ns → ∀ env, Le GAR.no (argsG ms env) (argsG ns env)
  | _, _, .nil, _ => .refl
  | _, _, .cons (.ex (m := m) h) hs, env => by
    simp only [argsG]
    rcases h env with e | e
    · rw [e]; exact .inl rfl
    · rw [e]
      cases m env with
      | no => exact .refl
      | ex x e => exact .refl
      | ok o d e1 =>
        simp only
        rcases argsG_le hs e1 with e | e
        · simp only [e]; exact .inl rfl
        · simp only [e]; exact .refl
  | _, _, .cons (.vr (i := i)) hs, env => by
    simp only [argsG]
    cases Env.look env i with
    | none => exact .refl
    | some d =>
      simp only
      rcases argsG_le hs env with e | e
      · simp only [e]; exact .inl rfl
      · simp only [e]; exact .refl
theorem opNG_le {f : List D → Option (Kd × D)} {ms ns : List GA} (h : leGAs ms ns) : leG (opNG f ms) (opNG f ns) := fun env => by
  simp only [opNG]
  rcases argsG_le h env with e | e
  · rw [e]; exact .inl rfl
  · rw [e]; exact .refl
theorem linG_le {f : List D → Option (Kd × D)} {ms ns : List GA} (h : leGAs ms ns) : leG (linG f ms) (linG f ns) := fun env => by
  simp only [linG]
  rcases argsG_le h env with e | e
  · rw [e]; exact .inl rfl
  · rw [e]; exact .refl
theorem callPG_le {n : Nat} {F G : List D → PR} {ms ns : List GA} (hF : leF F G) (h : leGAs ms ns) : leG (callPG n F ms) (callPG n G ns) := fun env => by
  simp only [callPG]
  rcases argsG_le h env with e | e
  · rw [e]; exact .inl rfl
  · rw [e]
    cases argsG ms env with
    | no => exact .refl
    | ex x e => exact .refl
    | ok us e1 =>
      simp only
      cases valsU e1 us with
      | none => exact .refl
      | some ds =>
        simp only
        split
        · rcases hF ds with e | e
          · rw [e]; exact .inl rfl
          · rw [e]; exact .refl
        · exact .refl
theorem callR_le {r i n : Nat} {F G : List D → RR} {ms ns : List GA} (hF : leRF F G) (h : leGAs ms ns) : leG (callR r i n F ms) (callR r i n G ns) := fun env => by
  simp only [callR]
  rcases argsG_le h env with e | e
  · rw [e]; exact .inl rfl
  · rw [e]
    cases argsG ms env with
    | no => exact .refl
    | ex x e => exact .refl
    | ok us e1 =>
      simp only
      split
      · cases valsU e1 us with
        | none => exact .refl
        | some ds =>
          simp only
          cases e1[i]? with
          | none => exact .refl
          | some s =>
            simp only
            cases s.mine with
            | none => exact .refl
            | some d0 =>
              simp only
              cases ds[r]? with
              | none => exact .refl
              | some d1 =>
                simp only
                rcases hF ds with e | e
                · rw [e]; exact .inl rfl
                · rw [e]; exact .refl
      · exact .refl
theorem appendG_le {i : Nat} {m n : GE} (h : leG m n) : leG (appendG i m) (appendG i n) := fun env => by
  simp only [appendG]
  cases Env.look env i with
  | none => exact .refl
  | some d =>
    cases d with
    | lst xs =>
      simp only
      rcases h env with e | e
      · rw [e]; exact .inl rfl
      · rw [e]; exact .refl
    | _ => exact .refl
theorem popG_le {i : Nat} {m n : GE} (h : leG m n) : leG (popG i m) (popG i n) := fun env => by
  simp only [popG]
  cases Env.look env i with
  | none => exact .refl
  | some d =>
    cases d with
    | lst xs =>
      simp only
      rcases h env with e | e
      · rw [e]; exact .inl rfl
      · rw [e]; exact .refl
    | _ => exact .refl
theorem extendG_le {i : Nat} {m n : GE} (h : leG m n) : leG (extendG i m) (extendG i n) := fun env => by
  simp only [extendG]
  cases Env.look env i with
  | none => exact .refl
  | some d =>
    cases d with
    | lst xs =>
      simp only
      rcases h env with e | e
      · rw [e]; exact .inl rfl
      · rw [e]; exact .refl
    | _ => exact .refl
theorem notG_le {m n : GE} (h : leG m n) : leG (notG m) (notG n) := fun env => by
  simp only [notG]
  rcases h env with e | e
  · rw [e]; exact .inl rfl
  · rw [e]; exact .refl
theorem andG_le {m n m' n' : GE} (h : leG m m') (h2 : leG n n') : leG (andG m n) (andG m' n') := fun env => by
  simp only [andG]
  rcases h env with e | e
  · rw [e]; exact .inl rfl
  · rw [e]
    cases m env with
    | no => exact .refl
    | ex x e => exact .refl
    | ok o d e1 =>
      cases d with
      | bl v => cases v <;> first | exact h2 e1 | exact .refl
      | _ => exact .refl
theorem orG_le {m n m' n' : GE} (h : leG m m') (h2 : leG n n') : leG (orG m n) (orG m' n') := fun env => by
  simp only [orG]
  rcases h env with e | e
  · rw [e]; exact .inl rfl
  · rw [e]
    cases m env with
    | no => exact .refl
    | ex x e => exact .refl
    | ok o d e1 =>
      cases d with
      | bl v => cases v <;> first | exact h2 e1 | exact .refl
      | _ => exact .refl
theorem iterS_le {ks : List Nat} {ι ι' : I} (h : leIt ι ι') : leIG (iterS ks ι) (iterS ks ι') := fun env => by
  simp only [iterS]
  rcases h env with e | e
  · rw [e]; exact .inl rfl
  · rw [e]
    cases ι env with
    | no => exact .refl
    | ex x => exact .refl
    | ok f ds =>
      simp only
      split
      · exact .refl
      · rcases h (hide ks 0 env) with e | e
        · rw [e]; exact .inl rfl
        · rw [e]; exact .refl
theorem irgG_le {m n : GE} (h : leG m n) : leIG (irgG m) (irgG n) := fun env => by
  simp only [irgG]
  rcases h env with e | e
  · rw [e]; exact .inl rfl
  · rw [e]; exact .refl
theorem iseqG_le {m n : GE} (h : leG m n) : leIG (iseqG m) (iseqG n) := fun env => by
  simp only [iseqG]
  rcases h env with e | e
  · rw [e]; exact .inl rfl
  · rw [e]; exact .refl
theorem loopC_le {vs : List Nat} {τ : Tgt} {t t' el el' : GE} (ht : leG t t') (he : leG el el') : ∀ ds env acc, Le GR.no (loopC vs τ t el ds env acc) (loopC vs τ t' el' ds env acc)
  | [], _, _ => .refl
  | d :: ds, env, acc => by
    simp only [loopC]
    cases bindT τ d env with
    | none => exact .refl
    | some e1 =>
      simp only
      rcases ht e1 with e | e
      · rw [e]; exact .inl rfl
      · rw [e]
        cases t e1 with
        | no => exact .refl
        | ex x e => exact .refl
        | ok o y e2 =>
          cases y with
          | bl v =>
            cases v with
            | false => exact loopC_le ht he ds _ acc
            | true =>
              simp only
              rcases he e2 with e | e
              · rw [e]; exact .inl rfl
              · rw [e]
                cases el e2 with
                | no => exact .refl
                | ex x e => exact .refl
                | ok o2 y e3 =>
                  simp only
                  split
                  · exact loopC_le ht he ds _ _
                  · exact .refl
          | _ => exact .refl
theorem compK_le {vs : List Nat} {τ : Tgt} {κ κ' : IG} {t t' el el' : GE} (hi : leIG κ κ') (ht : leG t t') (he : leG el el') : leG (compK vs τ κ t el) (compK vs τ κ' t' el') := fun env => by
  simp only [compK]
  rcases hi env with e | e
  · rw [e]; exact .inl rfl
  · rw [e]
    cases κ env with
    | no => exact .refl
    | ex x e => exact .refl
    | ok ds e1 => exact loopC_le ht he ds _ _
/-! statements -/
theorem retS_le {m n : GE} (h : leG m n) : leS (retS m) (retS n) := fun env => by
  simp only [retS]
  rcases h env with e | e
  · rw [e]; exact .inl rfl
  · rw [e]; exact .refl
theorem dropS_le {m n : GE} (h : leG m n) : leS (dropS m) (dropS n) := fun env => by
  simp only [dropS]
  rcases h env with e | e
  · rw [e]; exact .inl rfl
  · rw [e]; exact .refl
theorem asgS_le {i : Nat} {m n : GE} (h : leG m n) : leS (asgS i m) (asgS i n) := fun env => by
  simp only [asgS]
  rcases h env with e | e
  · rw [e]; exact .inl rfl
  · rw [e]; exact .refl
theorem unpS_le {τ : Tgt} {m n : GE} (h : leG m n) : leS (unpS τ m) (unpS τ n) := fun env => by
  simp only [unpS]
  rcases h env with e | e
  · rw [e]; exact .inl rfl
  · rw [e]; exact .refl
theorem mvIx_le {i : Nat} {m n : GE} (h : leG m n) : leG (mvIx i m) (mvIx i n) := fun env => by
  simp only [mvIx]
  cases Env.look env i with
  | none => exact .refl
  | some d =>
    simp only
    rcases h env with e | e
    · rw [e]; exact .inl rfl
    · rw [e]; exact .refl
theorem lstS_le {ms ns : List GA} (h : leGAs ms ns) : leG (lstS ms) (lstS ns) := fun env => by
  simp only [lstS]
  rcases argsG_le h env with e | e
  · rw [e]; exact .inl rfl
  · rw [e]; exact .refl
theorem unpL_le {is : List Nat} {m n : GE} (h : leG m n) : leS (unpL is m) (unpL is n) := fun env => by
  simp only [unpL]
  rcases h env with e | e
  · rw [e]; exact .inl rfl
  · rw [e]; exact .refl
theorem parS_le {i j : Nat} {ms ns : List GA} (h : leGAs ms ns) : leS (parS i j ms) (parS i j ns) := fun env => by
  simp only [parS]
  rcases argsG_le h env with e | e
  · rw [e]; exact .inl rfl
  · rw [e]; exact .refl
theorem setiS_le {i : Nat} {m n : GE} (ha : leP a a') (h : leG m n) : leS (setiS i a m) (setiS i a' n) := fun env => by
  simp only [setiS]
  rcases h env with e | e
  · rw [e]; exact .inl rfl
  · rw [e]
    cases m env with
    | no => exact .refl
    | ex x e => exact .refl
    | ok o d e1 =>
      simp only
      rcases ha e1 with e | e
      · rw [e]; exact .inl rfl
      · rw [e]; exact .refl
theorem stIx_le {i : Nat} {d : D} (ha : leP a a') (env : Env) : Le none (stIx i a d env) (stIx i a' d env) := by
  simp only [stIx]
  rcases ha env with e | e
  · rw [e]; exact .inl rfl
  · rw [e]; exact .refl
theorem swpS_le {i j : Nat} {m n : GE} (ha : leP a a') (hb : leP b b') (h : leG m n) : leS (swpS i a j b m) (swpS i a' j b' n) := fun env => by
  simp only [swpS]
  rcases h env with e | e
  · rw [e]; exact .inl rfl
  · rw [e]
    split
    · split
      · rename_i x y e1 _ _
        rcases stIx_le (i := i) (d := x) ha e1 with e | e
        · rw [e]; exact .inl rfl
        · rw [e]
          cases stIx i a x e1 with
          | none => exact .refl
          | some e2 =>
            simp only
            rcases stIx_le (i := j) (d := y) hb e2 with e | e
            · rw [e]; exact .inl rfl
            · rw [e]; exact .refl
      · exact .refl
    · exact .refl
    · exact .refl
    · exact .refl
theorem seqS_le {m n m' n' : SM} (h : leS m m') (h2 : leS n n') : leS (seqS m n) (seqS m' n') := fun env => by
  simp only [seqS]
  rcases h env with e | e
  · rw [e]; exact .inl rfl
  · rw [e]
    cases m env with
    | nx e1 => exact h2 e1
    | _ => exact .refl
theorem ifS_le {m n m' n' : SM} (ha : leP a a') (h : leS m m') (h2 : leS n n') : leS (ifS a m n) (ifS a' m' n') := fun env => by
  simp only [ifS]
  rcases ha env with e | e
  · rw [e]; exact .inl rfl
  · rw [e]
    cases a env with
    | no => exact .refl
    | ex x => exact .refl
    | ok f d =>
      cases d with
      | bl v => cases v <;> first | exact h env | exact h2 env
      | _ => exact .refl
theorem ifG_le {p p' : GE} {m n m' n' : SM} (ha : leG p p') (h : leS m m') (h2 : leS n n') : leS (ifG p m n) (ifG p' m' n') := fun env => by
  simp only [ifG]
  rcases ha env with e | e
  · rw [e]; exact .inl rfl
  · rw [e]
    cases p env with
    | no => exact .refl
    | ex x e => exact .refl
    | ok f d e1 =>
      cases d with
      | bl v => cases v <;> first | exact h e1 | exact h2 e1
      | _ => exact .refl
theorem loopS_le {τ : Tgt} {m m' : SM} (h : leS m m') : ∀ ds env, Le SR.no (loopS τ m ds env) (loopS τ m' ds env)
  | [], _ => .refl
  | d :: ds, env => by
    simp only [loopS]
    cases bindT τ d env with
    | none => exact .refl
    | some e1 =>
      simp only
      rcases h e1 with e | e
      · rw [e]; exact .inl rfl
      · rw [e]
        cases m e1 with
        | nx e2 => exact loopS_le h ds e2
        | _ => exact .refl
theorem forS_le {ks : List Nat} {τ : Tgt} {ι ι' : I} {m m' : SM} (hi : leIt ι ι') (h : leS m m') : leS (forS ks τ ι m) (forS ks τ ι' m') := fun env => by
  simp only [forS]
  rcases hi env with e | e
  · rw [e]; exact .inl rfl
  · rw [e]
    cases ι env with
    | no => exact .refl
    | ex x => exact .refl
    | ok f ds =>
      simp only
      split
      · exact loopS_le h ds env
      · rcases hi (hide ks 0 env) with e | e
        · rw [e]; exact .inl rfl
        · rw [e]
          cases ι (hide ks 0 env) with
          | no => exact .refl
          | ex x => exact .refl
          | ok f ds2 => exact loopS_le h ds2 _
theorem forG_le {τ : Tgt} {κ κ' : IG} {m m' : SM} (hi : leIG κ κ') (h : leS m m') : leS (forG τ κ m) (forG τ κ' m') := fun env => by
  simp only [forG]
  rcases hi env with e | e
  · rw [e]; exact .inl rfl
  · rw [e]
    cases κ env with
    | no => exact .refl
    | ex x e => exact .refl
    | ok ds e1 => exact loopS_le h ds e1
theorem loopW_le {c c' : GE} {m m' : SM} (hc : leG c c') (h : leS m m') : ∀ n env, Le SR.no (loopW c m n env) (loopW c' m' n env)
  | 0, _ => .refl
  | n + 1, env => by
    simp only [loopW]
    rcases hc env with e | e
    · rw [e]; exact .inl rfl
    · rw [e]
      cases c env with
      | no => exact .refl
      | ex x e => exact .refl
      | ok o d e1 =>
        cases d with
        | bl v =>
          cases v with
          | false => exact .refl
          | true =>
            simp only
            rcases h e1 with e | e
            · rw [e]; exact .inl rfl
            · rw [e]
              cases m e1 with
              | nx e2 => exact loopW_le hc h n e2
              | _ => exact .refl
        | _ => exact .refl
theorem whileS_le {n : Nat} {c c' : GE} {m m' : SM} (hc : leG c c') (h : leS m m') : leS (whileS n c m) (whileS n c' m') := fun env => loopW_le hc h n env
theorem scopeS_le {ks ws : List Nat} {m m' : SM} (h : leS m m') : leS (scopeS ks ws m) (scopeS ks ws m') := fun env => by
  simp only [scopeS]
  rcases h (mask ks ws 0 env) with e | e
  · rw [e]; exact .inl rfl
  · rw [e]; exact .refl
theorem forM_le {i : Nat} {τ : Tgt} {m m' : SM} (h : leS m m') : leS (forM i τ m) (forM i τ m') := fun env => by
  unfold forM
  cases env[i]? with
  | none => exact .refl
  | some s => cases s with
    | emp => exact .refl
    | pin => exact .refl
    | ref d => exact .refl
    | val o d => cases d with
      | lst xs =>
        simp only
        split
        · exact scopeS_le (fun e => loopS_le h xs e) env
        · exact .refl
      | _ => exact .refl
theorem fnP_le {n : Nat} {m m' : SM} (h : leS m m') : leF (fnP n m) (fnP n m') := fun ds => by
  simp only [fnP]
  rcases h (startE n ds) with e | e
  · rw [e]; exact .inl rfl
  · rw [e]; exact .refl
theorem fnR_le {n r : Nat} {m m' : SM} (h : leS m m') : leRF (fnR n r m) (fnR n r m') := fun ds => by
  simp only [fnR]
  rcases h (startR n r ds) with e | e
  · rw [e]; exact .inl rfl
  · rw [e]; exact .refl
end CB

namespace CB
open PySem L2
def leFO (p q : List (Bool × D) → PR) : Prop := ∀ ds, Le PR.no (p ds) (q ds)
theorem leFO.refl {p : List (Bool × D) → PR} : leFO p p := fun _ => .refl
theorem argsF_le : ∀ {ps qs : List P}, lePs ps qs → ∀ env, Le AF.no (argsF ps env) (argsF qs env)
  | _, _, .nil, _ => .refl
  | _, _, .cons (p := p) (q := q) h hs, env => by
    simp only [argsF]
    rcases h env with e | e
    · rw [e]; exact .inl rfl
    · rw [e]
      cases p env with
      | no => exact .inl rfl
      | ex x => exact .inr rfl
      | ok f d =>
        rcases argsF_le hs env with e | e
        · simp only [e]; exact .inl rfl
        · simp only [e]; exact .inr rfl
theorem callPO_le {n : Nat} {F G : List (Bool × D) → PR} {ps qs : List P} (hF : leFO F G) (h : lePs ps qs) : leP (callPO n F ps) (callPO n G qs) := fun env => by
  simp only [callPO]
  rcases argsF_le h env with e | e
  · rw [e]; exact .inl rfl
  · rw [e]
    cases argsF ps env with
    | no => exact .inl rfl
    | ex x => exact .inr rfl
    | ok fds =>
      simp only
      split
      · exact hF fds
      · exact .inl rfl
theorem fnO_le {n : Nat} {m m' : SM} (h : leS m m') : leFO (fnO n m) (fnO n m') := fun ds => by
  simp only [fnO]
  rcases h (startO n ds) with e | e
  · rw [e]; exact .inl rfl
  · rw [e]; exact .refl
theorem ddispP_le {ps qs : List P} (h : lePs ps qs) : leP (ddispP ps) (ddispP qs) := fun env => by
  simp only [ddispP]
  rcases args_le h env with e | e
  · rw [e]; exact .inl rfl
  · rw [e]; exact .refl
theorem loopO_le {i : Nat} {m m' : SM} (h : leS m m') : ∀ ds env, Le SR.no (loopO i m ds env) (loopO i m' ds env)
  | [], _ => .refl
  | d :: ds, env => by
    simp only [loopO]
    rcases h (env.set i (.val true d)) with e | e
    · rw [e]; exact .inl rfl
    · rw [e]
      cases m (env.set i (.val true d)) with
      | nx e2 => exact loopO_le h ds e2
      | _ => exact .refl
theorem forOwn_le {i : Nat} {p q : GE} {m m' : SM} (hp : leG p q) (h : leS m m') : leS (forOwn i p m) (forOwn i q m') := fun env => by
  simp only [forOwn]
  rcases hp env with e | e
  · rw [e]; exact .inl rfl
  · rw [e]
    cases p env with
    | no => exact .refl
    | ex x e2 => exact .refl
    | ok o d e2 =>
      cases o with
      | false => exact .refl
      | true => cases d <;> first | exact loopO_le h _ _ | exact .refl
theorem lindexP_le {a b a' b' : P} (ha : leP a a') (hb : leP b b') : leP (lindexP a b) (lindexP a' b') := fun env => by
  simp only [lindexP]
  rcases ha env with e | e
  · rw [e]; exact .inl rfl
  · rw [e]
    cases a env with
    | no => exact .inl rfl
    | ex x => exact .inr rfl
    | ok f d =>
      cases d with
      | lst xs =>
        rcases hb env with e | e
        · simp only [e]; exact .inl rfl
        · simp only [e]; exact .inr rfl
      | _ => exact .refl
theorem joinP_le {a b a' b' : P} (ha : leP a a') (hb : leP b b') : leP (joinP a b) (joinP a' b') := fun env => by
  simp only [joinP]
  rcases ha env with e | e
  · rw [e]; exact .inl rfl
  · rw [e]
    cases a env with
    | no => exact .inl rfl
    | ex x => exact .inr rfl
    | ok f d =>
      cases d with
      | str x =>
        rcases hb env with e | e
        · simp only [e]; exact .inl rfl
        · simp only [e]; exact .inr rfl
      | _ => exact .refl
theorem splitP_le {a b a' b' : P} (ha : leP a a') (hb : leP b b') : leP (splitP a b) (splitP a' b') := fun env => by
  simp only [splitP]
  rcases ha env with e | e
  · rw [e]; exact .inl rfl
  · rw [e]
    cases a env with
    | no => exact .inl rfl
    | ex x => exact .inr rfl
    | ok f d =>
      cases d with
      | str x =>
        rcases hb env with e | e
        · simp only [e]; exact .inl rfl
        · simp only [e]; exact .inr rfl
      | _ => exact .refl
end CB

namespace CB

/-! ### loops -/
theorem loop_inv {τ : Tgt} {m : SM} (I : Env → Prop) : ∀ {ds : List D}, (∀ d ∈ ds, ∀ env, I env → ∃ env1 env2, bindT τ d env = some env1 ∧ m env1 = .nx env2 ∧ I env2) → ∀ env, I env → ∃ env', loopS τ m ds env = .nx env' ∧ I env'
  | [], _, env, h => ⟨env, rfl, h⟩
  | d :: ds, H, env, h => by
    obtain ⟨e1, e2, a, b, c⟩ := H d List.mem_cons_self env h
    obtain ⟨e3, x, y⟩ := loop_inv I (fun d hd => H d (List.mem_cons_of_mem _ hd)) e2 c
    refine ⟨e3, ?_, y⟩
    simp only [loopS, a, b]
    exact x
theorem seq_assoc (a b c : SM) : seqS (seqS a b) c = seqS a (seqS b c) := by
  funext env
  simp only [seqS]
  cases a env <;> rfl
theorem seq_nx {a b : SM} {env e : Env} (h : a env = .nx e) : seqS a b env = b e := by simp only [seqS, h]
theorem mem_rgD {d : D} {lo : Int} {n : Nat} (h : d ∈ rgD lo n) : ∃ k : Nat, k < n ∧ d = .int (lo + k) := by
  unfold rgD at h
  obtain ⟨k, hk, e⟩ := List.mem_map.mp h
  exact ⟨k, List.mem_range.mp hk, e.symm⟩
theorem mulOk_l {i j : Int} (h : i.natAbs < 18446744073709551616) : mulOk i j = true := by unfold mulOk; simp [h]
theorem mulOk_r {i j : Int} (h : j.natAbs < 18446744073709551616) : mulOk i j = true := by unfold mulOk; simp [h]
def bigP : P := (op2 dMul (op2 dMul (op2 dMul (op2 dPow (cst (.int 10)) (cst (.int 60))) (op2 dPow (cst (.int 10)) (cst (.int 60)))) (op2 dPow (cst (.int 10)) (cst (.int 60)))) (op2 dPow (cst (.int 10)) (cst (.int 60))))
def e18P : P := (op2 dPow (cst (.int 10)) (cst (.int 18)))
theorem bigP_ok (env : Env) : bigP env = .ok true (.int (10 ^ 240)) := by kernel_rfl
theorem e18P_ok (env : Env) : e18P env = .ok true (.int 1000000000000000000) := by kernel_rfl
theorem szOk_lit : szOk 63 = true := rfl
theorem toInts_len (ns : List Int) : (ns.map D.int).length = ns.length := by simp
/-! ### orders of a pile -/
def perms : Nat → List Int → List (List Int)
  | 0, _ => [[]]
  | n + 1, xs => (List.range xs.length).flatMap fun j => match xs[j]? with
    | some y => (perms n (xs.eraseIdx j)).map (y :: ·)
    | none => []
theorem mem_perms {n : Nat} {xs o : List Int} {j : Nat} {y : Int} (h : xs[j]? = some y) (ho : o ∈ perms n (xs.eraseIdx j)) : y :: o ∈ perms (n + 1) xs := by
  refine List.mem_flatMap.mpr ⟨j, List.mem_range.mpr (List.getElem?_eq_some_iff.mp h).1, ?_⟩
  rw [h]
  exact List.mem_map.mpr ⟨o, ho, rfl⟩
theorem eraseIdx_map' {α β : Type} (f : α → β) : ∀ (l : List α) (j : Nat), (l.map f).eraseIdx j = (l.eraseIdx j).map f
  | [], _ => rfl
  | x :: l, 0 => rfl
  | x :: l, j + 1 => by simp [eraseIdx_map' f l j]
theorem perms_len : ∀ (m : Nat) (xs o : List Int), o ∈ perms m xs → o.length = m := by
  intro m
  induction m with
  | zero => intro xs o h; simp [perms] at h; simp [h]
  | succ m ih =>
    intro xs o h
    obtain ⟨j, _, h⟩ := List.mem_flatMap.mp h
    split at h
    · obtain ⟨p, hp, rfl⟩ := List.mem_map.mp h
      simp [ih _ _ hp]
    · cases h
theorem rgSz_nat {n : Nat} (hn : n ≤ 900000) : rgSz (n : Int) = true := by
  unfold rgSz
  rw [decide_eq_true (show (-4611686018427387904 : Int) ≤ n by omega), decide_eq_true (show (n : Int) < 4611686018427387904 by omega)]; rfl
theorem rgOk_nat {n : Nat} (hn : n ≤ 900000) : rgOkB 0 (n : Int) = true := by
  have h0 := rgSz_nat (n := 0) (by omega)
  unfold rgOkB
  rw [rgSz_nat hn]
  rw [show rgSz 0 = true from h0, decide_eq_true (show ((n : Int) - 0).toNat ≤ 1000000 by omega)]; rfl
theorem szOk_small {n : Nat} (hn : n ≤ 900000) : szOk n = true := Nat.ble_eq_true_of_le (by omega)
theorem noLs_rgD (n : Nat) : noLs (rgD 0 n) = true := by
  have : rgD 0 n = ((List.range n).map fun (k : Nat) => (0 + k : Int)).map D.int := by unfold rgD; simp [Function.comp_def]
  rw [this]; exact noLs_ints _
theorem fnR_rt {n r : Nat} {m : SM} {ds : List D} {o : Bool} {d dr : D} {e : Env} (h : m (startR n r ds) = .rt o d e) (he : e[r]? = some (.ref dr)) : fnR n r m ds = .ok o d dr := by
  simp only [fnR, h, endR, he]
theorem fnP_rt {n : Nat} {m : SM} {ds : List D} {o : Bool} {d : D} {e : Env} (h : m (startE n ds) = .rt o d e) : fnP n m ds = .ok o d := by
  simp only [fnP, h]
theorem fnP_nx {n : Nat} {m : SM} {ds : List D} {e : Env} (h : m (startE n ds) = .nx e) : fnP n m ds = .ok true .non := by
  simp only [fnP, h]
theorem lstRg_ok {q : Env → Option (Int × Int)} {env : Env} {i j : Int} (h : q env = some (i, j)) (hz : rgOkB i j = true) : lstRg q env = .ok true (.lst (rgD i (j - i).toNat)) := by
  simp only [lstRg, h, hz, if_true]
theorem irange1_ok {p : P} {env : Env} {f : Bool} {j : Int} (h : p env = .ok f (.int j)) (hz : rgSz j = true) : irange1 p env = .ok true (rgD 0 j.toNat) := by
  simp only [irange1, h, hz, if_true]
theorem asg_ok {i : Nat} {m : GE} {env e : Env} {o : Bool} {d : D} (h : m env = .ok o d e) : asgS i m env = .nx (e.set i (.val o d)) := by simp only [asgS, h]
theorem lift_new {ks : List Nat} {p : P} {env : Env} {f : Bool} {d : D} (h : p env = .ok f d) (g : gfl f d = true) : lift ks p env = .ok true d env := by simp only [lift, h, g, if_true]
theorem for_ok {ks : List Nat} {τ : Tgt} {ι : I} {m : SM} {env : Env} {ds : List D} (h : ι env = .ok true ds) (hn : noLs ds = true) : forS ks τ ι m env = loopS τ m ds env := by simp only [forS, h, hn, Bool.and_self, if_true]
theorem scope_nx {ks ws : List Nat} {m : SM} {env e r : Env} (h : m (mask ks ws 0 env) = .nx e) (hu : unmask ks ws 0 env e = some r) : scopeS ks ws m env = .nx r := by simp only [scopeS, h, hu]
theorem scope_rt {ks ws : List Nat} {m : SM} {env e r : Env} {o : Bool} {d : D} (h : m (mask ks ws 0 env) = .rt o d e) (hu : unmask ks ws 0 env e = some r) : scopeS ks ws m env = .rt o d r := by simp only [scopeS, h, hu]
def ords (n : Nat) : List (List Int) := perms n ((List.range n).map fun (k : Nat) => (0 + k : Int))
def okB : PR → Bool
  | .ok true (.bl true) => true
  | _ => false
theorem okB_of {r : PR} (h : okB r = true) : r = .ok true (.bl true) := by
  unfold okB at h
  split at h
  · rfl
  · cases h
theorem five {n : Nat} (h1 : 1 ≤ n) (h5 : n ≤ 5) : n = 1 ∨ n = 2 ∨ n = 3 ∨ n = 4 ∨ n = 5 := by omega
theorem all_chunks {α : Type} {f : α → Bool} {l : List α} (k n : Nat) (hk : 0 < k) (hl : l.length ≤ k * n) (h : ∀ i, i < n → ((l.drop (k * i)).take k).all f = true) : ∀ o ∈ l, f o = true := fun o ho => by
  obtain ⟨j, hj, e⟩ := List.getElem_of_mem ho
  have hi : j / k < n := Nat.div_lt_of_lt_mul (Nat.lt_of_lt_of_le hj hl)
  refine List.all_eq_true.mp (h (j / k) hi) o ?_
  refine List.mem_iff_getElem?.mpr ⟨j % k, ?_⟩
  have hm : j % k < k := Nat.mod_lt _ hk
  rw [List.getElem?_take, if_pos hm, List.getElem?_drop, Nat.div_add_mod, List.getElem?_eq_getElem hj, e]
theorem ten {P : Nat → Prop} (h0 : P 0) (h1 : P 1) (h2 : P 2) (h3 : P 3) (h4 : P 4) (h5 : P 5) (h6 : P 6) (h7 : P 7) (h8 : P 8) (h9 : P 9) : ∀ i, i < 10 → P i := fun i hi => by
  have : i = 0 ∨ i = 1 ∨ i = 2 ∨ i = 3 ∨ i = 4 ∨ i = 5 ∨ i = 6 ∨ i = 7 ∨ i = 8 ∨ i = 9 := by omega
  rcases this with e | e | e | e | e | e | e | e | e | e <;> subst e <;> assumption
theorem len5 : (ords 5).length ≤ 12 * 10 := by decide +kernel

/-! ### orders are the permutations -/
theorem eraseIdx_perm : ∀ {xs : List Int} {j : Nat} {y : Int}, xs[j]? = some y → xs.Perm (y :: xs.eraseIdx j)
  | [], _, _, h => by simp at h
  | x :: xs, 0, y, h => by simp at h; subst h; simp
  | x :: xs, j + 1, y, h => by
    have := eraseIdx_perm (xs := xs) (j := j) (y := y) (by simpa using h)
    rw [List.eraseIdx_cons_succ]
    exact (List.Perm.cons x this).trans (List.Perm.swap y x _)
theorem perm_mem : ∀ (o xs : List Int), o.Perm xs → o ∈ perms xs.length xs
  | [], xs, h => by have := h.symm.eq_nil; subst this; simp [perms]
  | y :: o, xs, h => by
    have hy : y ∈ xs := h.mem_iff.mp List.mem_cons_self
    obtain ⟨j, hj⟩ := List.mem_iff_getElem?.mp hy
    have hp := eraseIdx_perm hj
    have h2 : o.Perm (xs.eraseIdx j) := (h.trans hp).cons_inv
    have hlt := (List.getElem?_eq_some_iff.mp hj).1
    have hl : (xs.eraseIdx j).length + 1 = xs.length := by rw [List.length_eraseIdx, if_pos hlt]; omega
    have := mem_perms hj (perm_mem o _ h2)
    rw [hl] at this
    exact this
theorem mem_perm : ∀ (n : Nat) (xs o : List Int), xs.length = n → o ∈ perms n xs → o.Perm xs
  | 0, xs, o, hl, h => by
    have : xs = [] := List.length_eq_zero_iff.mp hl
    subst this
    simp [perms] at h; subst h; exact .refl _
  | n + 1, xs, o, hl, h => by
    obtain ⟨j, _, h⟩ := List.mem_flatMap.mp h
    split at h
    · rename_i y hy
      obtain ⟨p, hp, rfl⟩ := List.mem_map.mp h
      have hlt := (List.getElem?_eq_some_iff.mp hy).1
      have := mem_perm n _ p (by rw [List.length_eraseIdx, if_pos hlt]; omega) hp
      exact (this.cons y).trans (eraseIdx_perm hy).symm
    · cases h
def rgI (n : Nat) : List Int := (List.range n).map fun (k : Nat) => (0 + k : Int)
theorem rgI_len (n : Nat) : (rgI n).length = n := by simp [rgI]
theorem ords_perm {n : Nat} {o : List Int} (h : o ∈ ords n) : o.Perm (rgI n) := mem_perm n _ o (rgI_len n) h
theorem perm_ords {n : Nat} {o : List Int} (h : o.Perm (rgI n)) : o ∈ ords n := by
  have := perm_mem o _ h
  rw [rgI_len] at this
  exact this
theorem ords_of {n : Nat} {o q : List Int} (ho : o ∈ ords n) (h : q.Perm o) : q ∈ ords n := perm_ords (h.trans (ords_perm ho))
theorem ords_len {n : Nat} {o : List Int} (ho : o ∈ ords n) : o.length = n := perms_len _ _ _ ho
theorem ords_rng {n : Nat} {o : List Int} (ho : o ∈ ords n) {x : Int} (hx : x ∈ o) : 0 ≤ x ∧ x < n := by
  have := (ords_perm ho).mem_iff.mp hx
  simp [rgI] at this
  obtain ⟨k, hk, e⟩ := this
  omega
theorem rev_ok {n : Nat} {o : List Int} (ho : o ∈ ords n) : o.reverse ∈ ords n := ords_of ho (List.reverse_perm o)
theorem rgI_ords (n : Nat) : rgI n ∈ ords n := perm_ords (.refl _)
def swI (xs : List Int) (i j : Nat) : List Int := (xs.set i (xs.getD j 0)).set j (xs.getD i 0)
theorem sw_ok {n : Nat} {o : List Int} (ho : o ∈ ords n) {i j : Nat} (hi : i < n) (hj : j < n) : swI o i j ∈ ords n := by
  refine ords_of ho ?_
  have hl := ords_len ho
  have := List.set_set_perm (as := o) (i := i) (j := j) (by omega) (by omega)
  unfold swI
  have e1 : o.getD j 0 = o[j] := by simp [List.getD, List.getElem?_eq_getElem (show j < o.length by omega)]
  have e2 : o.getD i 0 = o[i] := by simp [List.getD, List.getElem?_eq_getElem (show i < o.length by omega)]
  rw [e1, e2]
  exact this
theorem dEq_int (i j : Int) : dEq (.int i) (.int j) = some (.new, .bl (decide (i = j))) := by
  simp [dEq, eqOk, dat, PySem.SeqAt.shaped, PySem.PyData.eqv, PySem.PyData.canLay0, PySem.PyData.depth]
  rfl
theorem dNe_int (i j : Int) : dNe (.int i) (.int j) = some (.new, .bl (!decide (i = j))) := by
  simp [dNe, eqOk, dat, PySem.SeqAt.shaped, PySem.PyData.eqv, PySem.PyData.canLay0, PySem.PyData.depth]
  rfl
/-! ### orders: what lies below -/
theorem sz0 : szOk 0 = true := rfl
theorem sz1 : szOk 1 = true := rfl
theorem sz2 : szOk 2 = true := rfl
theorem sz3 : szOk 3 = true := rfl
theorem sz4 : szOk 4 = true := rfl
theorem sz5 : szOk 5 = true := rfl
theorem int_inj {k p : Nat} (h : D.int (k : Nat) = D.int (p : Nat)) : k = p := by injection h with e; exact Int.ofNat.inj e
theorem ret_non (env : Env) : retS (lift [] (cst .non)) env = .rt true .non env := rfl
theorem loop_or2 {τ : Tgt} {m : SM} (I : Env → Prop) (N : D → Prop) (Q : Bool → D → Prop) : ∀ {ds : List D}, (∀ d ∈ ds, ∀ env, I env → ∃ env1, bindT τ d env = some env1 ∧ ((N d ∧ ∃ env2, m env1 = .nx env2 ∧ I env2) ∨ ∃ o r e, m env1 = .rt o r e ∧ Q o r)) → ∀ env, I env → ((∀ d ∈ ds, N d) ∧ ∃ env', loopS τ m ds env = .nx env' ∧ I env') ∨ ∃ o r e, loopS τ m ds env = .rt o r e ∧ Q o r
  | [], _, env, h => .inl ⟨(fun _ q => nomatch q), env, rfl, h⟩
  | d :: ds, H, env, h => by
    obtain ⟨e1, a, b⟩ := H d List.mem_cons_self env h
    rcases b with ⟨nd, e2, b, c⟩ | ⟨o, r, e, b, c⟩
    · rcases loop_or2 I N Q (fun d hd => H d (List.mem_cons_of_mem _ hd)) e2 c with ⟨nn, e3, x, y⟩ | ⟨o, r, e, x, y⟩
      · exact .inl ⟨fun z hz => (List.mem_cons.mp hz).elim (fun q => q ▸ nd) (nn z), e3, by simp only [loopS, a, b]; exact x, y⟩
      · exact .inr ⟨o, r, e, by simp only [loopS, a, b]; exact x, y⟩
    · exact .inr ⟨o, r, e, by simp only [loopS, a, b], c⟩
def okN : PR → Bool
  | .ok true .non => true
  | _ => false
theorem okN_of {r : PR} (h : okN r = true) : r = .ok true .non := by
  unfold okN at h
  split at h
  · rfl
  · cases h
def okI (k : Int) : PR → Bool
  | .ok true (.int i) => i == k
  | _ => false
theorem okI_of {r : PR} {k : Int} (h : okI k r = true) : r = .ok true (.int k) := by
  unfold okI at h
  split at h
  · simp at h; rw [h]
  · cases h
theorem all5 {p : Nat → List Int → Bool} (h1 : ((ords 1).all (p 1)) = true) (h2 : ((ords 2).all (p 2)) = true) (h3 : ((ords 3).all (p 3)) = true) (h4 : ((ords 4).all (p 4)) = true) (h5 : ((ords 5).all (p 5)) = true) {n : Nat} (l1 : 1 ≤ n) (l5 : n ≤ 5) {o : List Int} (ho : o ∈ ords n) : p n o = true := by
  rcases five l1 l5 with e | e | e | e | e <;> subst e
  · exact List.all_eq_true.mp h1 o ho
  · exact List.all_eq_true.mp h2 o ho
  · exact List.all_eq_true.mp h3 o ho
  · exact List.all_eq_true.mp h4 o ho
  · exact List.all_eq_true.mp h5 o ho
theorem noLs_o (o : List Int) : noLs (o.map D.int) = true := noLs_ints o
def cntI (o : List Int) (p h : Nat) : Nat := ((o.take p).filter fun x => decide ((h : Int) ≤ x)).length
theorem compL_ok {i : Nat} {t el : P} {env : Env} (c : D → Bool) (e : D → D) : ∀ (ds : List D), (∀ d ∈ ds, (∃ f, t (env.set i (.val false d)) = .ok f (.bl (c d))) ∧ (c d = true → ∃ f, el (env.set i (.val false d)) = .ok f (e d) ∧ gfl f (e d) = true)) → compL (.nm i) t el env ds = .ok true ((ds.filter c).map e)
  | [], _ => rfl
  | d :: ds, h => by
    obtain ⟨⟨f, h1⟩, h2⟩ := h d List.mem_cons_self
    have ih := compL_ok c e ds fun d hd => h d (List.mem_cons_of_mem _ hd)
    simp only [compL, bindT, h1]
    cases hc : c d with
    | false => simp only [ih, List.filter_cons, hc]; rfl
    | true =>
      obtain ⟨g, h3, h4⟩ := h2 hc
      simp only [h3, ih, h4, List.filter_cons, hc, Bool.and_self, if_true, List.map_cons]
theorem cut_take (o : List Int) (p : Nat) : cutA (o.map D.int) none (some (p : Int)) = (o.take p).map D.int := by
  unfold cutA
  rw [HT.sIx_none, HT.sIx_nat, List.drop_zero, List.length_map, Nat.sub_zero, ← List.map_take]
  congr 1
  rcases Nat.le_total p o.length with h | h
  · rw [Nat.min_eq_left h]
  · rw [Nat.min_eq_right h, List.take_of_length_le (Nat.le_refl _), List.take_of_length_le h]
theorem filter_ints (xs : List Int) (h : Nat) : (xs.map D.int).filter (fun d => match d with | .int i => decide ((h : Int) ≤ i) | _ => false) = (xs.filter fun x => decide ((h : Int) ≤ x)).map D.int := by
  induction xs with
  | nil => rfl
  | cons x xs ih =>
    simp only [List.map_cons, List.filter_cons, ih]
    split <;> rfl
def Hit (n : Nat) (a b : List Int) (o : Bool) (r : D) : Prop := o = true ∧ ∃ p h : Nat, p ≤ n ∧ h ≤ n ∧ cntI b p h < cntI a p h ∧ r = .tup [.int (p : Nat), .int (h : Nat)]

/-! ### rows of ints compared -/
theorem dats_ints (xs : List Int) : dats (xs.map D.int) = xs.map PySem.PyData.int := by
  induction xs with
  | nil => rfl
  | cons x xs ih => simp [dats, dat, ih]
theorem eqvAll_ints : ∀ xs ys : List Int, PySem.PyData.eqvAll (xs.map PySem.PyData.int) (ys.map PySem.PyData.int) = decide (xs = ys)
  | [], [] => by simp [PySem.PyData.eqvAll]
  | [], y :: ys => by simp [PySem.PyData.eqvAll]
  | x :: xs, [] => by simp [PySem.PyData.eqvAll]
  | x :: xs, y :: ys => by
    simp only [List.map_cons, PySem.PyData.eqvAll, PySem.PyData.eqv, eqvAll_ints xs ys]
    by_cases h : x = y
    · subst h; simp
    · simp [h]
theorem canLay_ints (xs : List Int) : PySem.PyData.canLayAll0 (xs.map PySem.PyData.int) = true := by
  induction xs with
  | nil => rfl
  | cons x xs ih => simp [PySem.PyData.canLayAll0, PySem.PyData.canLay0, ih]
theorem depth_ints (xs : List Int) : PySem.PyData.depthAll (xs.map PySem.PyData.int) ≤ 1 := by
  induction xs with
  | nil => simp [PySem.PyData.depthAll]
  | cons x xs ih => simp only [List.map_cons, PySem.PyData.depthAll, PySem.PyData.depth]; omega
theorem eqOk_tupI (xs : List Int) : eqOk (.tup (xs.map .int)) = true := by
  have := depth_ints xs
  simp only [eqOk, dat, dats_ints, PySem.SeqAt.shaped, PySem.PyData.canLay0, canLay_ints, PySem.PyData.depth, Bool.true_and]
  exact decide_eq_true (by omega)
theorem eqOk_lstI (xs : List Int) : eqOk (.lst (xs.map .int)) = true := by
  have := depth_ints xs
  simp only [eqOk, dat, dats_ints, PySem.SeqAt.shaped, PySem.PyData.canLay0, canLay_ints, PySem.PyData.depth, Bool.true_and]
  exact decide_eq_true (by omega)
theorem dEq_tupI (xs ys : List Int) : dEq (.tup (xs.map .int)) (.tup (ys.map .int)) = some (.new, .bl (decide (xs = ys))) := by
  simp only [dEq, eqOk_tupI, dat, dats_ints, PySem.PyData.eqv, eqvAll_ints, Bool.and_self, if_true]
theorem dNe_tupI (xs ys : List Int) : dNe (.tup (xs.map .int)) (.tup (ys.map .int)) = some (.new, .bl (!decide (xs = ys))) := by
  simp only [dNe, eqOk_tupI, dat, dats_ints, PySem.PyData.eqv, eqvAll_ints, Bool.and_self, if_true]
theorem dEq_lstI (xs ys : List Int) : dEq (.lst (xs.map .int)) (.lst (ys.map .int)) = some (.new, .bl (decide (xs = ys))) := by
  simp only [dEq, eqOk_lstI, dat, dats_ints, PySem.PyData.eqv, eqvAll_ints, Bool.and_self, if_true]
theorem dNe_lstI (xs ys : List Int) : dNe (.lst (xs.map .int)) (.lst (ys.map .int)) = some (.new, .bl (!decide (xs = ys))) := by
  simp only [dNe, eqOk_lstI, dat, dats_ints, PySem.PyData.eqv, eqvAll_ints, Bool.and_self, if_true]
theorem toBls_true : ∀ n : Nat, toBls (List.replicate n (D.bl true)) = some (List.replicate n true)
  | 0 => rfl
  | n + 1 => by simp [List.replicate_succ, toBls, toBls_true n]
theorem all_rep (n : Nat) : (List.replicate n true).all id = true := by
  induction n with
  | zero => rfl
  | succ n ih => simp [List.replicate_succ]
theorem dAll_true (n : Nat) : dAll [.lst (List.replicate n (D.bl true))] = some (.new, .bl true) := by
  simp only [dAll, toBls_true, all_rep]
/-- [el for x in ds] where el says True of each -/
theorem comp_yes {i : Nat} {ι : I} {el : P} {env : Env} {f : Bool} {ds : List D} (hi : ι env = .ok f ds) (hz : szOk ds.length = true) (h : ∀ d ∈ ds, ∃ f, el ((wipeE env [i]).set i (.val false d)) = .ok f (.bl true)) : comp [i] (.nm i) ι yesP el env = .ok true (.lst (List.replicate ds.length (.bl true))) := by
  have key : ∀ ds : List D, (∀ d ∈ ds, ∃ f, el ((wipeE env [i]).set i (.val false d)) = .ok f (.bl true)) → compL (.nm i) yesP el (wipeE env [i]) ds = .ok true (List.replicate ds.length (.bl true)) := by
    intro ds
    induction ds with
    | nil => intro _; rfl
    | cons d ds ih =>
      intro h
      obtain ⟨f, hf⟩ := h d List.mem_cons_self
      simp only [compL, bindT, yesP, hf, ih (fun d hd => h d (List.mem_cons_of_mem _ hd)), List.length_cons, List.replicate_succ, gfl, noL, Bool.or_true, Bool.and_self]
  simp only [comp, hi, hz, if_true, key ds h]
theorem compL_map {i : Nat} {el : P} {env : Env} (e : D → D) : ∀ (ds : List D), (∀ d ∈ ds, ∃ f, el (env.set i (.val false d)) = .ok f (e d) ∧ gfl f (e d) = true) → compL (.nm i) yesP el env ds = .ok true (ds.map e)
  | [], _ => rfl
  | d :: ds, h => by
    obtain ⟨f, h1, h2⟩ := h d List.mem_cons_self
    have ih := compL_map e ds fun d hd => h d (List.mem_cons_of_mem _ hd)
    simp only [compL, bindT, yesP, h1, h2, ih, List.map_cons, Bool.and_self]
theorem comp_map {i : Nat} {ι : I} {el : P} {env : Env} {f : Bool} {ds : List D} (e : D → D) (hi : ι env = .ok f ds) (hz : szOk ds.length = true) (h : ∀ d ∈ ds, ∃ f, el ((wipeE env [i]).set i (.val false d)) = .ok f (e d) ∧ gfl f (e d) = true) : comp [i] (.nm i) ι yesP el env = .ok true (.lst (ds.map e)) := by
  simp only [comp, hi, hz, if_true, compL_map e ds h]
end CB

namespace CB
/-! ### wrong pairs, falls, exchanges -/
def gI (o : List Int) (k : Nat) : Int := o.getD k 0
def inv (o : List Int) : Nat := ((List.range o.length).map fun j => ((o.take j).filter fun x => decide (gI o j < x)).length).sum
def fallB (o : List Int) (k : Nat) : Bool := decide (gI o (k + 1) < gI o k)
def flN (n : Nat) (o : List Int) : List Nat := (List.range (n - 1)).filter (fallB o)
def sw (o : List Int) (k : Nat) : List Int := swI o k (k + 1)
def swChk (n : Nat) (o : List Int) : Bool := Nat.ble (inv o) 10 && (inv o != 0 || o == rgI n) && (inv o == 0 || flN n o != []) && (List.range (n - 1)).all fun k => (sw (sw o k) k == o) && (if fallB o k then inv (sw o k) + 1 == inv o else inv (sw o k) == inv o + 1) && (gI o k != gI o (k + 1))
theorem swChk_1 : ((ords 1).all (swChk 1)) = true := by decide +kernel
theorem swChk_2 : ((ords 2).all (swChk 2)) = true := by decide +kernel
theorem swChk_3 : ((ords 3).all (swChk 3)) = true := by decide +kernel
theorem swChk_4 : ((ords 4).all (swChk 4)) = true := by decide +kernel
theorem swChk_5 : ((ords 5).all (swChk 5)) = true := by decide +kernel
section
variable {n : Nat} {o : List Int}
theorem swChk_ok (h1 : 1 ≤ n) (h5 : n ≤ 5) (ho : o ∈ ords n) : swChk n o = true := all5 swChk_1 swChk_2 swChk_3 swChk_4 swChk_5 h1 h5 ho
theorem inv_le (h1 : 1 ≤ n) (h5 : n ≤ 5) (ho : o ∈ ords n) : inv o ≤ 10 := by
  have := swChk_ok h1 h5 ho
  simp only [swChk, Bool.and_eq_true] at this
  exact Nat.le_of_ble_eq_true this.1.1.1
theorem inv_zero (h1 : 1 ≤ n) (h5 : n ≤ 5) (ho : o ∈ ords n) (h : inv o = 0) : o = rgI n := by
  have := swChk_ok h1 h5 ho
  simp only [swChk, Bool.and_eq_true] at this
  have := this.1.1.2
  simpa [h] using this
theorem fl_ne (h1 : 1 ≤ n) (h5 : n ≤ 5) (ho : o ∈ ords n) (h : inv o ≠ 0) : flN n o ≠ [] := by
  have := swChk_ok h1 h5 ho
  simp only [swChk, Bool.and_eq_true] at this
  have := this.1.2
  simpa [h] using this
theorem sw_chk (h1 : 1 ≤ n) (h5 : n ≤ 5) (ho : o ∈ ords n) {k : Nat} (hk : k + 1 < n) : sw (sw o k) k = o ∧ (if fallB o k = true then inv (sw o k) + 1 = inv o else inv (sw o k) = inv o + 1) ∧ gI o k ≠ gI o (k + 1) := by
  have := swChk_ok h1 h5 ho
  simp only [swChk, Bool.and_eq_true] at this
  have := List.all_eq_true.mp this.2 k (List.mem_range.mpr (by omega))
  simp only [Bool.and_eq_true] at this
  obtain ⟨⟨a, b⟩, c⟩ := this
  refine ⟨by simpa using a, ?_, by simpa using c⟩
  split at b <;> rename_i hf
  · rw [if_pos hf]; simpa using b
  · rw [if_neg hf]; simpa using b
theorem sw_ords (ho : o ∈ ords n) {k : Nat} (hk : k + 1 < n) : sw o k ∈ ords n := sw_ok ho (by omega) hk
theorem mem_flN {k : Nat} : k ∈ flN n o ↔ k + 1 < n ∧ fallB o k = true := by
  unfold flN
  rw [List.mem_filter, List.mem_range]
  constructor
  · intro ⟨a, b⟩; exact ⟨by omega, b⟩
  · intro ⟨a, b⟩; exact ⟨by omega, b⟩
end
/-- two places exchanged by the slices -/
theorem sw_cut {o : List Int} {k : Nat} (hk : k + 1 < o.length) : o.take k ++ [gI o (k + 1), gI o k] ++ o.drop (k + 2) = sw o k := by
  apply List.ext_getElem?
  intro i
  have hk0 : k < o.length := by omega
  simp only [sw, swI, gI, List.getElem?_set, List.length_set, List.append_assoc]
  have e1 : o.getD (k + 1) 0 = o[k + 1] := by simp [List.getD, hk]
  have e2 : o.getD k 0 = o[k] := by simp [List.getD, hk0]
  rcases Nat.lt_trichotomy i k with h | h | h
  · rw [List.getElem?_append_left (by rw [List.length_take]; omega), List.getElem?_take, if_pos h, if_neg (by omega), if_neg (by omega)]
  · subst h
    rw [List.getElem?_append_right (by rw [List.length_take]; omega), List.length_take, if_neg (by omega), if_pos rfl, if_pos hk0]
    simp [Nat.min_eq_left (Nat.le_of_lt hk0)]
  · rcases Nat.lt_or_ge i (k + 2) with h2 | h2
    · have : i = k + 1 := by omega
      subst this
      rw [List.getElem?_append_right (by rw [List.length_take]; omega), List.length_take, if_pos rfl, if_pos hk]
      rw [show k + 1 - min k o.length = 1 by omega]
      simp
    · rw [List.getElem?_append_right (by rw [List.length_take]; omega), List.length_take, if_neg (by omega), if_neg (by omega)]
      rw [List.getElem?_append_right (by simp; omega)]
      rw [List.getElem?_drop]
      congr 1
      simp only [List.length_cons, List.length_nil]
      omega
/-! ### words -/
def wI (w : List Nat) : List Int := w.map fun (k : Nat) => (k : Int)
def Word (n : Nat) (w : List Nat) : Prop := w.length ≤ 30 ∧ ∀ k ∈ w, k + 1 < n
def woF (o : List Int) (w : List Nat) : List Int := w.foldl (fun o k => swI o k (k + 1)) o
def wo (n : Nat) (w : List Nat) : List Int := woF (rgI n) w
theorem woF_ords {n : Nat} : ∀ (w : List Nat) (o : List Int), o ∈ ords n → (∀ k ∈ w, k + 1 < n) → woF o w ∈ ords n
  | [], o, ho, _ => ho
  | k :: w, o, ho, h => woF_ords w _ (sw_ok ho (by have := h k List.mem_cons_self; omega) (h k List.mem_cons_self)) fun j hj => h j (List.mem_cons_of_mem _ hj)
theorem wo_ords {n : Nat} {w : List Nat} (h : ∀ k ∈ w, k + 1 < n) : wo n w ∈ ords n := woF_ords w _ (rgI_ords n) h
theorem woF_app (o : List Int) (v w : List Nat) : woF o (v ++ w) = woF (woF o v) w := by simp [woF]
theorem woF_cons (o : List Int) (k : Nat) (w : List Nat) : woF o (k :: w) = woF (sw o k) w := rfl
/-! leaving out two -/
def tp (a p : Nat) : Nat := if p = a then a + 1 else if p = a + 1 then a else p
def exChk (n : Nat) (o : List Int) : Bool := (List.range (n - 1)).all fun a => (List.range n).all fun q => (List.range q).all fun p =>
  if gI (sw o a) q < gI (sw o a) p then (if p == a && q == a + 1 then swI (sw o a) p q == o else Nat.blt (tp a p) (tp a q) && Nat.blt (tp a q) n && decide (gI o (tp a q) < gI o (tp a p)) && (sw (swI o (tp a p) (tp a q)) a == swI (sw o a) p q)) else true
theorem exChk_1 : ((ords 1).all (exChk 1)) = true := by decide +kernel
theorem exChk_2 : ((ords 2).all (exChk 2)) = true := by decide +kernel
theorem exChk_3 : ((ords 3).all (exChk 3)) = true := by decide +kernel
theorem exChk_4 : ((ords 4).all (exChk 4)) = true := by decide +kernel
theorem exChk_5 : ((ords 5).all (exChk 5)) = true := by decide +kernel
theorem ex_chk {n : Nat} {o : List Int} (h1 : 1 ≤ n) (h5 : n ≤ 5) (ho : o ∈ ords n) {a p q : Nat} (ha : a + 1 < n) (hp : p < q) (hq : q < n) (hi : gI (sw o a) q < gI (sw o a) p) :
    (p = a ∧ q = a + 1 ∧ swI (sw o a) p q = o) ∨ (tp a p < tp a q ∧ tp a q < n ∧ gI o (tp a q) < gI o (tp a p) ∧ sw (swI o (tp a p) (tp a q)) a = swI (sw o a) p q) := by
  have : exChk n o = true := all5 exChk_1 exChk_2 exChk_3 exChk_4 exChk_5 h1 h5 ho
  have := List.all_eq_true.mp (List.all_eq_true.mp (List.all_eq_true.mp this a (List.mem_range.mpr (by omega))) q (List.mem_range.mpr hq)) p (List.mem_range.mpr hp)
  rw [if_pos hi] at this
  split at this <;> rename_i hc
  · simp at hc this
    exact .inl ⟨hc.1, hc.2, this⟩
  · simp only [Bool.and_eq_true] at this
    obtain ⟨⟨⟨x, y⟩, z⟩, u⟩ := this
    exact .inr ⟨by simpa [Nat.blt_eq] using x, by simpa [Nat.blt_eq] using y, by simpa using z, by simpa using u⟩
theorem id_rises : ∀ n p q : Nat, p < q → q < n → gI (rgI n) p < gI (rgI n) q := by
  intro n p q h1 h2
  simp [gI, rgI, List.getD, h2, Nat.lt_trans h1 h2]
  omega
/-- an order's wrong pair can be undone by leaving an entry of any word of it out -/
theorem leave_one {n : Nat} (h1 : 1 ≤ n) (h5 : n ≤ 5) : ∀ (m : Nat) (v : List Nat), v.length = m → (∀ k ∈ v, k + 1 < n) → ∀ p q, p < q → q < n → gI (wo n v) q < gI (wo n v) p → ∃ i, i < v.length ∧ wo n (v.eraseIdx i) = swI (wo n v) p q
  | 0, v, hv, _, p, q, hp, hq, hi => by
    have : v = [] := List.length_eq_zero_iff.mp hv
    subst this
    have := id_rises n p q hp hq
    simp only [wo, woF, List.foldl_nil] at hi
    omega
  | m + 1, v, hv, hk, p, q, hp, hq, hi => by
    have hne : v ≠ [] := fun e => by subst e; simp at hv
    have hd : v = v.dropLast ++ [v.getLast hne] := (List.dropLast_concat_getLast hne).symm
    generalize v.getLast hne = a at hd
    generalize v.dropLast = v' at hd
    subst hd
    have hl : v'.length = m := by rw [List.length_append, List.length_singleton] at hv; omega
    have hk' : ∀ k ∈ v', k + 1 < n := fun k h => hk k (List.mem_append_left _ h)
    have ha : a + 1 < n := hk a (by simp)
    have hw : wo n (v' ++ [a]) = sw (wo n v') a := by simp [wo, woF_app, woF, sw]
    rw [hw] at hi ⊢
    rcases ex_chk h1 h5 (wo_ords hk') ha hp hq hi with ⟨_, _, e⟩ | ⟨x, y, z, u⟩
    · refine ⟨v'.length, by simp, ?_⟩
      rw [e, List.eraseIdx_append_of_length_le (Nat.le_refl _), Nat.sub_self]
      simp
    · obtain ⟨i, hi2, e⟩ := leave_one h1 h5 m v' hl hk' (tp a p) (tp a q) x y z
      refine ⟨i, by rw [List.length_append]; omega, ?_⟩
      rw [List.eraseIdx_append_of_lt_length hi2]
      have : wo n (v'.eraseIdx i ++ [a]) = sw (wo n (v'.eraseIdx i)) a := by simp [wo, woF_app, woF, sw]
      rw [this, e, u]
/-- the wrong pairs of a word's order -/
theorem short_or {n : Nat} (h1 : 1 ≤ n) (h5 : n ≤ 5) : ∀ (w : List Nat) (o : List Int), o ∈ ords n → (∀ k ∈ w, k + 1 < n) → inv (woF o w) = inv o + w.length ∨ ∃ j, ∃ h : j < w.length, fallB (woF o (w.take j)) w[j] = true
  | [], o, ho, _ => .inl rfl
  | k :: w, o, ho, hk => by
    have hk0 := hk k List.mem_cons_self
    have hs := (sw_chk h1 h5 ho hk0).2.1
    cases hf : fallB o k with
    | true => exact .inr ⟨0, by simp, by simpa [woF] using hf⟩
    | false =>
      rw [hf] at hs
      simp only [Bool.false_eq_true, if_false] at hs
      rcases short_or h1 h5 w (sw o k) (sw_ords ho hk0) (fun j h => hk j (List.mem_cons_of_mem _ h)) with e | ⟨j, hj, e⟩
      · left; rw [woF_cons, e, hs, List.length_cons]; omega
      · exact .inr ⟨j + 1, by simp; omega, by simpa [woF_cons] using e⟩
theorem inv_le_len {n : Nat} (h1 : 1 ≤ n) (h5 : n ≤ 5) : ∀ (w : List Nat) (o : List Int), o ∈ ords n → (∀ k ∈ w, k + 1 < n) → inv (woF o w) ≤ inv o + w.length
  | [], o, ho, _ => Nat.le_refl _
  | k :: w, o, ho, hk => by
    have hk0 := hk k List.mem_cons_self
    have hs := (sw_chk h1 h5 ho hk0).2.1
    have ih := inv_le_len h1 h5 w (sw o k) (sw_ords ho hk0) (fun j h => hk j (List.mem_cons_of_mem _ h))
    rw [woF_cons, List.length_cons]
    split at hs <;> omega
theorem inv_id (n : Nat) (h5 : n ≤ 5) : inv (rgI n) = 0 := by
  have : n = 0 ∨ n = 1 ∨ n = 2 ∨ n = 3 ∨ n = 4 ∨ n = 5 := by omega
  rcases this with e | e | e | e | e | e <;> subst e <;> decide +kernel
def rem2 (w : List Nat) (i j : Nat) : List Nat := w.take i ++ ((w.take j).drop (i + 1)) ++ w.drop (j + 1)
theorem leave_two {n : Nat} (h1 : 1 ≤ n) (h5 : n ≤ 5) {w : List Nat} (hw : ∀ k ∈ w, k + 1 < n) (hs : inv (wo n w) ≠ w.length) : ∃ i j, i < j ∧ j < w.length ∧ wo n (rem2 w i j) = wo n w := by
  rcases short_or h1 h5 w (rgI n) (rgI_ords n) hw with e | ⟨j, hj, e⟩
  · rw [inv_id n h5, Nat.zero_add] at e; exact (hs e).elim
  · have hk : w[j] + 1 < n := hw _ (List.getElem_mem hj)
    have hv : ∀ k ∈ w.take j, k + 1 < n := fun k h => hw k (List.mem_of_mem_take h)
    have hf : gI (wo n (w.take j)) (w[j] + 1) < gI (wo n (w.take j)) w[j] := by simpa [fallB, wo] using e
    obtain ⟨i, hi, e2⟩ := leave_one h1 h5 _ (w.take j) rfl hv w[j] (w[j] + 1) (by omega) hk hf
    have hij : i < j := by rw [List.length_take] at hi; omega
    refine ⟨i, j, hij, hj, ?_⟩
    have e3 : rem2 w i j = (w.take j).eraseIdx i ++ w.drop (j + 1) := by
      unfold rem2
      rw [List.eraseIdx_eq_take_drop_succ, List.take_take, Nat.min_eq_left (by omega)]
    have e4 : w = w.take j ++ w[j] :: w.drop (j + 1) := by
      rw [List.getElem_cons_drop]; exact (List.take_append_drop j w).symm
    rw [e3]
    show woF (rgI n) _ = woF (rgI n) w
    rw [woF_app]
    conv => rhs; rw [e4, woF_app, woF_cons]
    congr 1
end CB

namespace CB
open PySem PySem.W
variable [CT]

/-! ### polynomials: terms, dicts of terms, sorted terms -/
abbrev Tm := List Int × Int
def tD (t : Tm) : D := .tup [.tup (t.1.map .int), .int t.2]
def pD (ts : List Tm) : D := .lst (ts.map tD)
def kD (k : List Int) : D := .tup (k.map .int)
theorem noLs_map {α : Type} {f : α → D} (h : ∀ a, noL (f a) = true) : ∀ l : List α, noLs (l.map f) = true
  | [] => rfl
  | a :: l => by simp only [List.map_cons, noLs, h a, noLs_map h l, Bool.and_self]
theorem noL_tD (t : Tm) : noL (tD t) = true := by simp [tD, noL, noLs, noLs_ints]
theorem noLs_tD (l : List Tm) : noLs (l.map tD) = true := noLs_map noL_tD l
theorem noL_kD (k : List Int) : noL (kD k) = true := by simp [kD, noL, noLs_ints]
theorem isort_map {α β : Type} (le : β → β → Bool) (f : α → β) : ∀ l : List α, isort le (l.map f) = (isort (fun a b => le (f a) (f b)) l).map f
  | [] => rfl
  | a :: l => by
    simp only [List.map_cons, isort, isort_map le f l]
    generalize isort (fun a b => le (f a) (f b)) l = m
    induction m with
    | nil => rfl
    | cons b m ih =>
      simp only [List.map_cons, isIns]
      split
      · rfl
      · rw [List.map_cons, ih]
/-! the order of terms -/
def ltT (a b : Tm) : Bool := if a.1 = b.1 then decide (a.2 < b.2) else decide (a.1 < b.1)
def geT (a b : Tm) : Bool := !ltT a b
theorem dat_kD (k : List Int) : dat (kD k) = .tuple (k.map .int) := by simp [kD, dat, dats_ints]
theorem dat_tD (t : Tm) : dat (tD t) = .tuple [.tuple (t.1.map .int), .int t.2] := by simp [tD, dat, dats, dats_ints]
theorem alike_tup (a b : List Int) : alike (.tuple (a.map .int)) (.tuple (b.map .int)) = true := by
  simp only [alike]; exact alike_ints a b
theorem lt_tup (a b : List Int) : dataLt (.tuple (a.map .int)) (.tuple (b.map .int)) = decide (a < b) := by
  rw [dataLt_tuple]; exact dataLt_ints a b
theorem lt_tD (a b : Tm) : dataLt (dat (tD a)) (dat (tD b)) = ltT a b := by
  rw [dat_tD, dat_tD, dataLt_pair (alike_tup _ _) rfl, lt_tup, dataLt_int]
  have e1 : PyData.eqv (.tuple (a.1.map .int)) (.tuple (b.1.map .int)) = decide (a.1 = b.1) := by simp only [PyData.eqv, eqvAll_ints]
  rw [e1]
  have e2 : PyData.eqv (.int a.2) (.int b.2) = decide (a.2 = b.2) := by simp only [PyData.eqv]; rfl
  rw [e2]
  unfold ltT
  simp only [decide_eq_true_eq]
  split
  · split
    · rename_i h; rw [h]; simp
    · rfl
  · rfl
theorem leD_tD (a b : Tm) : leD true (tD a) (tD b) = geT a b := by
  show (!dataLt (dat (tD a)) (dat (tD b))) = _
  rw [lt_tD]; rfl
theorem geT_total : PySem.W.TotalLe geT := by
  have h := leD_total true
  refine ⟨fun a b c => ?_, fun a b => ?_⟩
  · have := h.trans (tD a) (tD b) (tD c)
    rwa [leD_tD, leD_tD, leD_tD] at this
  · have := h.total (tD a) (tD b)
    rwa [leD_tD, leD_tD] at this
theorem geT_anti {a b : Tm} (h1 : geT a b = true) (h2 : geT b a = true) : a = b := by
  unfold geT ltT at h1 h2
  by_cases e : a.1 = b.1
  · rw [if_pos e] at h1
    rw [if_pos e.symm] at h2
    simp at h1 h2
    exact Prod.ext e (by omega)
  · rw [if_neg e] at h1
    rw [if_neg (Ne.symm e)] at h2
    simp only [Bool.not_eq_true', decide_eq_false_iff_not] at h1 h2
    exfalso
    rcases List.le_total (l₁ := a.1) (l₂ := b.1) with h | h
    · exact e (List.le_antisymm h (List.not_lt.mp h1))
    · exact e (List.le_antisymm (List.not_lt.mp h2) h)
def srt (l : List Tm) : List Tm := isort geT l
theorem srt_D (l : List Tm) : isort (leD true) (l.map tD) = (srt l).map tD := by
  rw [isort_map]
  unfold srt
  have e : (fun a b => leD true (tD a) (tD b)) = geT := by funext a b; exact leD_tD a b
  rw [e]
theorem srt_perm (l : List Tm) : (srt l).Perm l := isort_perm l
theorem srt_pw (l : List Tm) : (srt l).Pairwise fun a b => geT a b = true := isort_pw geT_total l
theorem srt_of_perm {l m : List Tm} (h : l.Perm m) : srt l = srt m :=
  List.Perm.eq_of_pairwise (le := fun a b => geT a b = true) (fun a b _ _ h1 h2 => geT_anti h1 h2) (srt_pw l) (srt_pw m) ((srt_perm l).trans (h.trans (srt_perm m).symm))
theorem srt_srt (l : List Tm) : srt (srt l) = srt l := srt_of_perm (srt_perm l)
theorem srt_len (l : List Tm) : (srt l).length = l.length := (srt_perm l).length_eq
/-! what the machine asks of sorted terms -/
theorem alike_tD (a b : Tm) : alike (dat (tD a)) (dat (tD b)) = true := by
  rw [dat_tD, dat_tD]
  simp only [alike, alikeAll, Bool.and_true]
  exact alike_ints _ _
theorem depth_tD (a : Tm) : (dat (tD a)).depth ≤ 3 := by
  have := CB.depth_ints a.1
  rw [dat_tD]
  simp only [PyData.depth, PyData.depthAll]
  omega
theorem lay_tD (a : Tm) : (dat (tD a)).canLay0 = true := by
  rw [dat_tD]
  simp only [PyData.canLay0, PyData.canLayAll0, canLay_ints, Bool.and_self]
theorem dats_tD (l : List Tm) : dats (l.map tD) = l.map fun t => dat (tD t) := by
  rw [dats_map, List.map_map]; rfl
theorem sortOk_tD {l : List Tm} (hz : szOk l.length = true) : sortOk (l.map tD) = true := by
  unfold sortOk
  rw [dats_tD, List.length_map, hz, Bool.and_true]
  have h1 : alikeB (l.map fun t => dat (tD t)) = true := by
    unfold alikeB
    refine List.all_eq_true.mpr fun d hd => List.all_eq_true.mpr fun d' hd' => ?_
    obtain ⟨a, _, rfl⟩ := List.mem_map.mp hd
    obtain ⟨b, _, rfl⟩ := List.mem_map.mp hd'
    exact alike_tD a b
  have h2 : sortB (l.map fun t => dat (tD t)) = true := by
    unfold sortB
    rw [Bool.or_eq_true]
    refine .inl (List.all_eq_true.mpr fun d hd => ?_)
    obtain ⟨a, _, rfl⟩ := List.mem_map.mp hd
    rw [dat_tD]
  have h3 : depB (l.map fun t => dat (tD t)) = true := by
    unfold depB
    refine List.all_eq_true.mpr fun d hd => ?_
    obtain ⟨a, _, rfl⟩ := List.mem_map.mp hd
    rw [lay_tD, Bool.and_true]
    exact decide_eq_true (by have := depth_tD a; omega)
  rw [h1, h2, h3]; rfl
theorem sortT_ok {l : List Tm} (hz : szOk l.length = true) : dSortR true [.lst (l.map tD)] = some (.new, .lst ((srt l).map tD)) := by
  cases l with
  | nil => rfl
  | cons a l =>
    have e : toInts ((a :: l).map tD) = none := by simp [toInts, tD]
    have hs : seqOf (.lst ((a :: l).map tD)) = some ((a :: l).map tD) := rfl
    simp only [dSortR, hs, e, sortOk_tD hz, noLs_tD, if_true, srt_D]
/-! equal or not -/
theorem eqv_tD (a b : Tm) : PyData.eqv (dat (tD a)) (dat (tD b)) = decide (a = b) := by
  rw [dat_tD, dat_tD]
  simp only [PyData.eqv, PyData.eqvAll, eqvAll_ints, Bool.and_true]
  by_cases e1 : a.1 = b.1
  · by_cases e2 : a.2 = b.2
    · have : a = b := Prod.ext e1 e2
      simp [this]
    · have : a ≠ b := fun z => e2 (by rw [z])
      simp [e1, e2, this]
  · have : a ≠ b := fun z => e1 (by rw [z])
    simp [e1, this]
theorem eqvAll_tD : ∀ l m : List Tm, PyData.eqvAll (l.map fun t => dat (tD t)) (m.map fun t => dat (tD t)) = decide (l = m)
  | [], [] => by simp [PyData.eqvAll]
  | [], b :: m => by simp [PyData.eqvAll]
  | a :: l, [] => by simp [PyData.eqvAll]
  | a :: l, b :: m => by
    simp only [List.map_cons, PyData.eqvAll, eqv_tD, eqvAll_tD l m]
    by_cases h : a = b
    · subst h; simp
    · simp [h]
theorem depths_tD (l : List Tm) : PyData.depthAll (l.map fun t => dat (tD t)) ≤ 3 := by
  induction l with
  | nil => simp [PyData.depthAll]
  | cons a l ih => simp only [List.map_cons, PyData.depthAll]; have := depth_tD a; omega
theorem lays_tD (l : List Tm) : PyData.canLayAll0 (l.map fun t => dat (tD t)) = true := by
  induction l with
  | nil => rfl
  | cons a l ih => simp only [List.map_cons, PyData.canLayAll0, lay_tD, ih, Bool.and_self]
theorem eqOk_pD (l : List Tm) : eqOk (pD l) = true := by
  have := depths_tD l
  simp only [eqOk, pD, dat, dats_tD, SeqAt.shaped, PyData.canLay0, lays_tD, PyData.depth, Bool.true_and]
  exact decide_eq_true (by omega)
theorem dEq_pD (l m : List Tm) : dEq (pD l) (pD m) = some (.new, .bl (decide (l = m))) := by
  simp only [dEq, eqOk_pD, Bool.and_self, if_true]
  simp only [pD, dat, dats_tD, PyData.eqv, eqvAll_tD]
theorem dNe_pD (l m : List Tm) : dNe (pD l) (pD m) = some (.new, .bl (!decide (l = m))) := by
  simp only [dNe, eqOk_pD, Bool.and_self, if_true]
  simp only [pD, dat, dats_tD, PyData.eqv, eqvAll_tD]
/-! ### dicts of terms -/
def dd (kv : List Tm) : D := .dic (kv.map (·.1)) (kv.map fun t => .int t.2)
def getT : List Tm → List Int → Int
  | [], _ => 0
  | t :: kv, k => if t.1 = k then t.2 else getT kv k
def putT : List Tm → List Int → Int → List Tm
  | [], k, n => [(k, n)]
  | t :: kv, k, n => if t.1 = k then (t.1, n) :: kv else t :: putT kv k n
def addT (kv : List Tm) (t : Tm) : List Tm := putT kv t.1 (getT kv t.1 + t.2)
def accT (ts kv : List Tm) : List Tm := ts.foldl addT kv
theorem keyOf_kD (k : List Int) : keyOf (kD k) = some k := keyI_map k
theorem dval_dd (k : List Int) : ∀ kv : List Tm, (dval (kv.map (·.1)) (kv.map fun t => D.int t.2) k).getD (.int 0) = .int (getT kv k)
  | [] => rfl
  | t :: kv => by
    simp only [List.map_cons, dval, getT]
    split
    · rfl
    · exact dval_dd k kv
theorem dget_dd (kv : List Tm) (k : List Int) : dGetD (dd kv) (kD k) (.int 0) = some (.int (getT kv k)) := by
  have h := dval_dd k kv
  simp only [dGetD, dd, keyOf_kD]
  cases e : dval (kv.map (·.1)) (kv.map fun t => D.int t.2) k with
  | none => rw [e] at h; simp only [Option.getD_none] at h; rw [← h]
  | some v => rw [e] at h; simp only [Option.getD_some] at h; rw [← h]
theorem kput_dd (k : List Int) (n : Int) : ∀ kv : List Tm, kput (kv.map (·.1)) k = (putT kv k n).map (·.1)
  | [] => rfl
  | t :: kv => by
    simp only [List.map_cons, kput, putT]
    split
    · rfl
    · rw [List.map_cons, kput_dd k n kv]
theorem vput_dd (k : List Int) (n : Int) : ∀ kv : List Tm, vput (kv.map (·.1)) (kv.map fun t => D.int t.2) k (.int n) = (putT kv k n).map fun t => .int t.2
  | [] => rfl
  | t :: kv => by
    simp only [List.map_cons, vput, putT]
    split
    · rfl
    · rw [List.map_cons, vput_dd k n kv]
theorem put_len (k : List Int) (n : Int) : ∀ kv : List Tm, (putT kv k n).length ≤ kv.length + 1
  | [] => by simp [putT]
  | t :: kv => by
    simp only [putT]
    split
    · simp
    · have := put_len k n kv; simp only [List.length_cons]; omega
theorem put_mem {k : List Int} {n : Int} {x : List Int} : ∀ {kv : List Tm}, x ∈ (putT kv k n).map (·.1) → x ∈ kv.map (·.1) ∨ x = k
  | [], h => by simp [putT] at h; exact .inr h
  | t :: kv, h => by
    simp only [putT] at h
    split at h
    · exact .inl (by simpa using h)
    · rw [List.map_cons] at h
      rcases List.mem_cons.mp h with z | z
      · exact .inl (by rw [List.map_cons]; exact List.mem_cons.mpr (.inl z))
      · exact (put_mem z).imp (fun q => by rw [List.map_cons]; exact List.mem_cons_of_mem _ q) id
theorem put_nodup (k : List Int) (n : Int) : ∀ {kv : List Tm}, (kv.map (·.1)).Nodup → ((putT kv k n).map (·.1)).Nodup
  | [], _ => by simp [putT]
  | t :: kv, h => by
    simp only [putT]
    have h' := List.nodup_cons.mp h
    split
    · exact h
    · rename_i hn
      refine List.nodup_cons.mpr ⟨fun hm => ?_, put_nodup k n h'.2⟩
      rcases put_mem hm with z | z
      · exact h'.1 z
      · exact hn z
theorem get_put (k : List Int) (n : Int) (x : List Int) : ∀ kv : List Tm, getT (putT kv k n) x = if k = x then n else getT kv x
  | [] => by simp [putT, getT]
  | t :: kv => by
    simp only [putT]
    split
    · rename_i e
      simp only [getT]
      rw [e]
      split <;> rfl
    · rename_i e
      simp only [getT, get_put k n x kv]
      split
      · rename_i e2
        rw [if_neg]
        exact fun z => e (e2.trans z.symm)
      · rfl
/-- the number that goes with some powers, of all terms together -/
def coef : List Tm → List Int → Int
  | [], _ => 0
  | t :: ts, k => (if t.1 = k then t.2 else 0) + coef ts k
theorem coef_append (k : List Int) : ∀ l m : List Tm, coef (l ++ m) k = coef l k + coef m k
  | [], m => by simp [coef]
  | t :: l, m => by simp only [List.cons_append, coef, coef_append k l m]; omega
theorem coef_perm {l m : List Tm} (h : l.Perm m) (k : List Int) : coef l k = coef m k := by
  induction h with
  | nil => rfl
  | cons x _ ih => simp only [coef, ih]
  | swap x y l => simp only [coef]; omega
  | trans _ _ ih1 ih2 => exact ih1.trans ih2
theorem get_acc (k : List Int) : ∀ (ts kv : List Tm), getT (accT ts kv) k = getT kv k + coef ts k
  | [], kv => by simp [accT, coef]
  | t :: ts, kv => by
    have := get_acc k ts (addT kv t)
    simp only [accT, List.foldl_cons] at this ⊢
    rw [this]
    simp only [addT, get_put, coef]
    split
    · rename_i e; subst e; omega
    · omega
theorem acc_nodup : ∀ (ts : List Tm) {kv : List Tm}, (kv.map (·.1)).Nodup → ((accT ts kv).map (·.1)).Nodup
  | [], _, h => h
  | t :: ts, kv, h => acc_nodup ts (put_nodup _ _ h)
theorem acc_len : ∀ (ts kv : List Tm), (accT ts kv).length ≤ kv.length + ts.length
  | [], kv => by simp [accT]
  | t :: ts, kv => by
    have h1 := acc_len ts (addT kv t)
    have h2 := put_len t.1 (getT kv t.1 + t.2) kv
    simp only [accT, List.foldl_cons, List.length_cons] at h1 ⊢
    have h3 : (addT kv t).length ≤ kv.length + 1 := h2
    omega
theorem acc_keys : ∀ (ts : List Tm) {kv : List Tm} {x : List Int}, x ∈ (accT ts kv).map (·.1) → x ∈ kv.map (·.1) ∨ x ∈ ts.map (·.1)
  | [], _, _, h => .inl h
  | t :: ts, kv, x, h => by
    rcases acc_keys ts (kv := addT kv t) h with z | z
    · rcases put_mem z with y | y
      · exact .inl y
      · exact .inr (by simp [y])
    · exact .inr (List.mem_cons_of_mem _ z)
theorem coef_none {k : List Int} : ∀ {l : List Tm}, k ∉ l.map (·.1) → coef l k = 0
  | [], _ => rfl
  | t :: l, h => by
    simp only [List.map_cons, List.mem_cons, not_or] at h
    simp only [coef, if_neg (Ne.symm h.1), coef_none h.2]
    rfl
theorem coef_get {k : List Int} : ∀ {l : List Tm}, (l.map (·.1)).Nodup → coef l k = getT l k
  | [], _ => rfl
  | t :: l, h => by
    have h' := List.nodup_cons.mp h
    simp only [coef, getT]
    split
    · rename_i e; subst e; rw [coef_none h'.1]; omega
    · rw [coef_get h'.2]; omega
theorem coef_mem {t : Tm} {l : List Tm} (hn : (l.map (·.1)).Nodup) (h : t ∈ l) : coef l t.1 = t.2 := by
  induction l with
  | nil => cases h
  | cons a l ih =>
    have h' := List.nodup_cons.mp hn
    simp only [coef]
    rcases List.mem_cons.mp h with e | h
    · subst e; rw [if_pos rfl, coef_none h'.1]; omega
    · have hne : a.1 ≠ t.1 := fun e => h'.1 (List.mem_map.mpr ⟨t, h, e.symm⟩)
      rw [if_neg hne, ih h'.2 h]; omega
/-! ### normal forms -/
def nz (kv : List Tm) : List Tm := kv.filter fun t => !decide (t.2 = 0)
theorem coef_nz (k : List Int) : ∀ l : List Tm, coef (nz l) k = coef l k
  | [] => rfl
  | t :: l => by
    have ih := coef_nz k l
    unfold nz at ih ⊢
    rw [List.filter_cons]
    split
    · simp only [coef, ih]
    · rename_i h
      have h0 : t.2 = 0 := by simpa using h
      rw [ih]
      simp only [coef, h0]
      split <;> simp
theorem nz_nodup {l : List Tm} (h : (l.map (·.1)).Nodup) : ((nz l).map (·.1)).Nodup := h.sublist (List.filter_sublist.map _)
structure Norm (p : List Tm) : Prop where
  nd : (p.map (·.1)).Nodup
  ne : ∀ t ∈ p, t.2 ≠ 0
  st : srt p = p
def gath (kv : List Tm) : List Tm := srt (nz kv)
theorem gath_norm {kv : List Tm} (h : (kv.map (·.1)).Nodup) : Norm (gath kv) where
  nd := (((srt_perm (nz kv)).map (·.1)).nodup_iff).mpr (nz_nodup h)
  ne := fun t ht => by
    have := (srt_perm (nz kv)).mem_iff.mp ht
    simpa using (List.mem_filter.mp this).2
  st := srt_srt _
theorem coef_gath (kv : List Tm) (k : List Int) : coef (gath kv) k = coef kv k := (coef_perm (srt_perm _) k).trans (coef_nz k kv)
theorem gath_len (kv : List Tm) : (gath kv).length ≤ kv.length := by
  unfold gath
  rw [srt_len]
  exact List.length_filter_le ..
theorem norm_mem {p : List Tm} (h : Norm p) (t : Tm) : t ∈ p ↔ t.2 ≠ 0 ∧ coef p t.1 = t.2 := by
  constructor
  · exact fun m => ⟨h.ne t m, coef_mem h.nd m⟩
  · intro ⟨h1, h2⟩
    by_cases hm : t.1 ∈ p.map (·.1)
    · obtain ⟨u, hu, e⟩ := List.mem_map.mp hm
      have := coef_mem h.nd hu
      rw [show u.1 = t.1 from e] at this
      have e2 : u = t := Prod.ext e (by rw [← this, h2])
      rw [← e2]; exact hu
    · rw [coef_none hm] at h2
      exact absurd h2.symm h1
theorem nodup_of {p : List Tm} (h : (p.map (·.1)).Nodup) : p.Nodup := by
  induction p with
  | nil => exact List.nodup_nil
  | cons a p ih =>
    have h' := List.nodup_cons.mp h
    exact List.nodup_cons.mpr ⟨fun m => h'.1 (List.mem_map.mpr ⟨a, m, rfl⟩), ih h'.2⟩
theorem norm_ext {p q : List Tm} (hp : Norm p) (hq : Norm q) (h : ∀ k, coef p k = coef q k) : p = q := by
  have hm : ∀ t, t ∈ p ↔ t ∈ q := fun t => by rw [norm_mem hp, norm_mem hq, h]
  have : p.Perm q := (List.perm_ext_iff_of_nodup (nodup_of hp.nd) (nodup_of hq.nd)).mpr hm
  rw [← hp.st, ← hq.st]
  exact srt_of_perm this
theorem norm_nil : Norm [] where
  nd := List.nodup_nil
  ne := fun _ h => nomatch h
  st := rfl
/-- the sum of some terms -/
def sumT (ts : List Tm) : List Tm := gath (accT ts [])
theorem sumT_norm (ts : List Tm) : Norm (sumT ts) := gath_norm (acc_nodup ts (kv := []) List.nodup_nil)
theorem coef_sumT (ts : List Tm) (k : List Int) : coef (sumT ts) k = coef ts k := by
  unfold sumT
  rw [coef_gath, coef_get (acc_nodup ts (kv := []) List.nodup_nil), get_acc]
  simp [getT]
theorem sumT_id {p : List Tm} (h : Norm p) : sumT p = p := norm_ext (sumT_norm p) h (coef_sumT p)
theorem sumT_ext {ts us : List Tm} (h : ∀ k, coef ts k = coef us k) : sumT ts = sumT us := norm_ext (sumT_norm ts) (sumT_norm us) fun k => by rw [coef_sumT, coef_sumT, h]
theorem sumT_len (ts : List Tm) : (sumT ts).length ≤ ts.length := by
  have h1 := gath_len (accT ts [])
  have h2 := acc_len ts []
  simp only [List.length_nil, Nat.zero_add] at h2
  unfold sumT; omega
theorem sumT_keys {ts : List Tm} {t : Tm} (h : t ∈ sumT ts) : t.1 ∈ ts.map (·.1) := by
  have h1 := (srt_perm (nz (accT ts []))).mem_iff.mp h
  have h2 := (List.mem_filter.mp h1).1
  rcases acc_keys ts (kv := []) (List.mem_map.mpr ⟨t, h2, rfl⟩) with z | z
  · cases z
  · exact z
/-- terms with their powers changed one to one -/
theorem norm_map {p : List Tm} (h : Norm p) (f : List Int → List Int) (hf : ∀ a ∈ p, ∀ b ∈ p, f a.1 = f b.1 → a.1 = b.1) : Norm (srt (p.map fun t => (f t.1, t.2))) where
  nd := by
    refine (((srt_perm _).map (·.1)).nodup_iff).mpr ?_
    rw [List.map_map]
    have := h.nd
    have key : ∀ l : List Tm, (∀ a ∈ l, a ∈ p) → (l.map (·.1)).Nodup → (l.map ((fun t : Tm => t.1) ∘ fun t => (f t.1, t.2))).Nodup := by
      intro l
      induction l with
      | nil => intro _ _; exact List.nodup_nil
      | cons a l ih =>
        intro hs hn
        have hn' := List.nodup_cons.mp hn
        refine List.nodup_cons.mpr ⟨fun m => ?_, ih (fun b hb => hs b (List.mem_cons_of_mem _ hb)) hn'.2⟩
        obtain ⟨b, hb, e⟩ := List.mem_map.mp m
        exact hn'.1 (List.mem_map.mpr ⟨b, hb, hf b (hs b (List.mem_cons_of_mem _ hb)) a (hs a List.mem_cons_self) e⟩)
    exact key p (fun _ h => h) this
  ne := fun t ht => by
    have := (srt_perm _).mem_iff.mp ht
    obtain ⟨u, hu, rfl⟩ := List.mem_map.mp this
    exact h.ne u hu
  st := srt_srt _
/-- .. is what adding these up tells -/
theorem sumT_map {p : List Tm} (h : Norm p) (f : List Int → List Int) (hf : ∀ a ∈ p, ∀ b ∈ p, f a.1 = f b.1 → a.1 = b.1) : sumT (p.map fun t => (f t.1, t.2)) = srt (p.map fun t => (f t.1, t.2)) :=
  norm_ext (sumT_norm _) (norm_map h f hf) fun k => by rw [coef_sumT, coef_perm (srt_perm _)]
end CB

namespace CB
open PySem PySem.W
variable [CT]
/-! ### sums over terms -/
def ev (f : List Int → Int) : List Tm → Int
  | [] => 0
  | t :: ts => t.2 * f t.1 + ev f ts
theorem ev_append (f : List Int → Int) : ∀ l m : List Tm, ev f (l ++ m) = ev f l + ev f m
  | [], m => by simp [ev]
  | t :: l, m => by simp only [List.cons_append, ev, ev_append f l m]; omega
theorem ev_perm (f : List Int → Int) {l m : List Tm} (h : l.Perm m) : ev f l = ev f m := by
  induction h with
  | nil => rfl
  | cons x _ ih => simp only [ev, ih]
  | swap x y l => simp only [ev]; omega
  | trans _ _ a b => exact a.trans b
theorem ev_congr {f g : List Int → Int} : ∀ {l : List Tm}, (∀ t ∈ l, f t.1 = g t.1) → ev f l = ev g l
  | [], _ => rfl
  | t :: l, h => by simp only [ev, h t List.mem_cons_self, ev_congr (l := l) fun u hu => h u (List.mem_cons_of_mem _ hu)]
theorem ev_add (f g : List Int → Int) : ∀ l : List Tm, ev (fun k => f k + g k) l = ev f l + ev g l
  | [] => by simp [ev]
  | t :: l => by simp only [ev, ev_add f g l, Int.mul_add]; omega
theorem ev_mul (c : Int) (f : List Int → Int) : ∀ l : List Tm, ev (fun k => c * f k) l = c * ev f l
  | [] => by simp [ev]
  | t :: l => by simp only [ev, ev_mul c f l, Int.mul_add]; rw [Int.mul_left_comm]
theorem ev_sub (f g : List Int → Int) : ∀ l : List Tm, ev (fun k => f k - g k) l = ev f l - ev g l
  | [] => by simp [ev]
  | t :: l => by simp only [ev, ev_sub f g l, Int.mul_sub]; omega
theorem ev_zero : ∀ l : List Tm, ev (fun _ => 0) l = 0
  | [] => rfl
  | t :: l => by simp only [ev, ev_zero l]; omega
theorem ev_key (g : List Int → List Int) (f : List Int → Int) : ∀ l : List Tm, ev f (l.map fun t => (g t.1, t.2)) = ev (fun k => f (g k)) l
  | [] => rfl
  | t :: l => by simp only [List.map_cons, ev, ev_key g f l]
theorem ev_scale (c : Int) (f : List Int → Int) : ∀ l : List Tm, ev f (l.map fun t => (t.1, t.2 * c)) = c * ev f l
  | [] => by simp [ev]
  | t :: l => by simp only [List.map_cons, ev, ev_scale c f l, Int.mul_add]; rw [Int.mul_comm t.2 c, Int.mul_assoc]
def dlt (k x : List Int) : Int := if x = k then 1 else 0
theorem coef_ev (k : List Int) : ∀ l : List Tm, coef l k = ev (dlt k) l
  | [] => rfl
  | t :: l => by
    simp only [coef, ev, coef_ev k l, dlt]
    split <;> simp
theorem ev_put (f : List Int → Int) (k : List Int) (n : Int) : ∀ kv : List Tm, ev f (putT kv k (getT kv k + n)) = ev f kv + n * f k
  | [] => by simp [putT, ev, getT]
  | t :: kv => by
    simp only [putT, getT]
    split
    · rename_i e
      simp only [ev, e, Int.add_mul]; omega
    · simp only [ev, ev_put f k n kv]; omega
theorem ev_acc (f : List Int → Int) : ∀ (ts kv : List Tm), ev f (accT ts kv) = ev f kv + ev f ts
  | [], kv => by simp [accT, ev]
  | t :: ts, kv => by
    have h1 := ev_acc f ts (addT kv t)
    have h2 : ev f (addT kv t) = ev f kv + t.2 * f t.1 := ev_put f t.1 t.2 kv
    simp only [accT, List.foldl_cons, ev] at h1 ⊢
    rw [h1, h2]; omega
theorem ev_nz (f : List Int → Int) : ∀ l : List Tm, ev f (nz l) = ev f l
  | [] => rfl
  | t :: l => by
    have ih := ev_nz f l
    unfold nz at ih ⊢
    rw [List.filter_cons]
    split
    · simp only [ev, ih]
    · rename_i h
      have h0 : t.2 = 0 := by simpa using h
      rw [ih]
      simp only [ev, h0]
      omega
theorem ev_gath (f : List Int → Int) (kv : List Tm) : ev f (gath kv) = ev f kv := (ev_perm f (srt_perm _)).trans (ev_nz f kv)
theorem ev_sumT (f : List Int → Int) (ts : List Tm) : ev f (sumT ts) = ev f ts := by
  unfold sumT
  rw [ev_gath, ev_acc]
  simp [ev]
theorem ev_srt (f : List Int → Int) (l : List Tm) : ev f (srt l) = ev f l := ev_perm f (srt_perm l)
/-- two normal sums are one where all sums over their terms are -/
theorem ev_ext {p q : List Tm} (hp : Norm p) (hq : Norm q) (h : ∀ f, ev f p = ev f q) : p = q := norm_ext hp hq fun k => by rw [coef_ev, coef_ev, h]
theorem ev_of_coef {p q : List Tm} (h : ∀ k, coef p k = coef q k) (f : List Int → Int) : ev f p = ev f q := by
  rw [← ev_sumT f p, ← ev_sumT f q, sumT_ext h]
/-- sums over the terms at powers of a kind -/
theorem ev_extK {p q : List Tm} (hp : Norm p) (hq : Norm q) (h : ∀ k, (k ∈ p.map (·.1) ∨ k ∈ q.map (·.1)) → ev (dlt k) p = ev (dlt k) q) : p = q := norm_ext hp hq fun k => by
  by_cases hk : k ∈ p.map (·.1) ∨ k ∈ q.map (·.1)
  · rw [coef_ev, coef_ev, h k hk]
  · rw [not_or] at hk
    rw [coef_none hk.1, coef_none hk.2]
/-! products -/
def addK (a b : List Int) : List Int := List.zipWith (· + ·) a b
def mulT (p q : List Tm) : List Tm := p.flatMap fun a => q.map fun b => (addK a.1 b.1, a.2 * b.2)
theorem ev_row (f : List Int → Int) (a : Tm) : ∀ q : List Tm, ev f (q.map fun b => (addK a.1 b.1, a.2 * b.2)) = a.2 * ev (fun b => f (addK a.1 b)) q
  | [] => by simp [ev]
  | b :: q => by simp only [List.map_cons, ev, ev_row f a q, Int.mul_add, Int.mul_assoc]
theorem ev_mulT (f : List Int → Int) (q : List Tm) : ∀ p : List Tm, ev f (mulT p q) = ev (fun a => ev (fun b => f (addK a b)) q) p
  | [] => rfl
  | a :: p => by
    have ih := ev_mulT f q p
    unfold mulT at ih ⊢
    rw [List.flatMap_cons, ev_append, ev_row, ih]
    rfl
theorem ev_swap (f : List Int → List Int → Int) (q : List Tm) : ∀ p : List Tm, ev (fun a => ev (fun b => f a b) q) p = ev (fun b => ev (fun a => f a b) p) q
  | [] => by simp only [ev]; exact (ev_zero q).symm
  | a :: p => by
    simp only [ev, ev_swap f q p]
    rw [ev_add, ev_mul]
theorem addK_comm (a b : List Int) : addK a b = addK b a := by
  unfold addK
  rw [List.zipWith_comm]
  congr 1
  funext x y
  exact Int.add_comm _ _
theorem addK_assoc : ∀ a b c : List Int, addK (addK a b) c = addK a (addK b c)
  | [], _, _ => by simp [addK]
  | _ :: _, [], _ => by simp [addK]
  | _ :: _, _ :: _, [] => by simp [addK]
  | x :: a, y :: b, z :: c => by
    have := addK_assoc a b c
    unfold addK at this ⊢
    simp only [List.zipWith_cons_cons, this, Int.add_assoc]
theorem addK_len (a b : List Int) : (addK a b).length = min a.length b.length := by simp [addK]
theorem mulT_len (p q : List Tm) : (mulT p q).length = p.length * q.length := by
  induction p with
  | nil => simp [mulT]
  | cons a p ih =>
    unfold mulT at ih ⊢
    rw [List.flatMap_cons, List.length_append, List.length_map, ih, List.length_cons, Nat.succ_mul]
    omega
theorem mulT_mem {p q : List Tm} {t : Tm} (h : t ∈ mulT p q) : ∃ a ∈ p, ∃ b ∈ q, t = (addK a.1 b.1, a.2 * b.2) := by
  obtain ⟨a, ha, h⟩ := List.mem_flatMap.mp h
  obtain ⟨b, hb, rfl⟩ := List.mem_map.mp h
  exact ⟨a, ha, b, hb, rfl⟩
end CB

namespace CB
open PySem L2 PySem.Spec PyProof.Rows
def m_is_whole : SM :=
  (retS (lift [0] (andP (op1 (isT "int") (var 0)) (notP (op1 (isT "bool") (var 0))))))

def m_gathered : SM :=
  (retS (lift [0] (opN (dSortR true) [(comp [1, 2] (.tp [1, 2]) (iitems (var 0)) (op2 dNe (var 2) (cst (.int 0))) (opN dTup [(var 1), (var 2)]))])))

def b_is_order (F_is_whole : List D → PR) : SM :=
  (seqS (ifS (orP (notP (op1 (isT "tuple") (var 0))) (orP (op2 dLt (opN dLen [(var 0)]) (cst (.int 1))) (op2 dGt (opN dLen [(var 0)]) (cst (.int 5))))) (retS (lift [] (cst (.bl false)))) passS)
  (retS (lift [0] (andP (opN dAll [(comp [1] (.nm 1) (iseq (var 0)) yesP (callP F_is_whole [(var 1)]))]) (op2 dEq (opN (dSortR false) [(var 0)]) (lstRg (rg1 (opN dLen [(var 0)]))))))))
def m_is_order : SM := b_is_order (fnP 1 m_is_whole)

def b_look_at_order (F_is_order : List D → PR) : SM :=
  (ifS (notP (callP F_is_order [(var 0)])) (raiseS "BadOrder") passS)
def m_look_at_order : SM := b_look_at_order (fnP 2 m_is_order)

def m_plain : SM :=
  (retS (lift [0] (tupRg (rg1 (var 0)))))

def b_least_by (F_plain : List D → PR) : SM :=
  (seqS (asgS 1 (lift [] (opN dLst [])))
  (seqS (asgS 2 (lift [0] (var 0)))
  (seqS (whileS 1000 (liftT (op2 dNe (var 2) (callP F_plain [(opN dLen [(var 0)])]))) (seqS (asgS 3 (lift [2, 4] (comp [4] (.nm 4) (irange1 (op2 dSub (opN dLen [(var 2)]) (cst (.int 1)))) (op2 dGt (tindexP (var 2) (var 4)) (tindexP (var 2) (op2 dAdd (var 4) (cst (.int 1))))) (var 4))))
  (seqS (asgS 4 (lift [3] (op2 dIx (var 3) (cst (.int 0)))))
  (seqS (dropS (appendG 1 (lift [4] (var 4))))
  (asgS 2 (lift [2, 4] (opN dTupOf [(comp [5] (.nm 5) (iseq (var 2)) yesP (ifP (op2 dIn (var 5) (opN dTup [(var 4), (op2 dAdd (var 4) (cst (.int 1)))])) (op2 dSub (op2 dAdd (op2 dAdd (var 4) (var 4)) (cst (.int 1))) (var 5)) (var 5)))])))))))
  (retS (mvG 1)))))
def m_least_by : SM := b_least_by (fnP 1 m_plain)

def b_divided (F_gathered : List D → PR) : SM :=
  (seqS (asgS 2 (lift [] dnewP))
  (seqS (forS [0] (.tp [3, 4]) (iseq (var 0)) (seqS (asgS 5 (lift [1, 3] (opN dMin2 [(op2 dIx (var 3) (var 1)), (op2 dIx (var 3) (op2 dAdd (var 1) (cst (.int 1))))])))
  (seqS (asgS 6 (lift [1, 3] (opN dMax2 [(op2 dIx (var 3) (var 1)), (op2 dIx (var 3) (op2 dAdd (var 1) (cst (.int 1))))])))
  (seqS (ifS (op2 dLt (op2 dIx (var 3) (var 1)) (op2 dIx (var 3) (op2 dAdd (var 1) (cst (.int 1))))) (asgS 4 (lift [4] (op2 dSub (cst (.int 0)) (var 4)))) passS)
  (forS [5, 6] (.nm 7) (irange1 (op2 dSub (var 6) (var 5))) (seqS (asgS 8 (lift [1, 3, 5, 6, 7] (op2 dAdd (op2 dAdd (sliceP (var 3) none (some (var 1))) (opN dTup [(op2 dSub (op2 dSub (var 6) (cst (.int 1))) (var 7)), (op2 dAdd (var 5) (var 7))])) (sliceP (var 3) (some (op2 dAdd (var 1) (cst (.int 2)))) none))))
  (setdS 2 (var 8) (lift [2, 4, 8] (op2 dAdd (dgetP (var 2) (var 8) (cst (.int 0))) (var 4))))))))))
  (retS (lift [2] (callP F_gathered [(var 2)])))))
def m_divided : SM := b_divided (fnP 3 m_gathered)

def b_divided_by (F_divided : List D → PR) : SM :=
  (seqS (forS [1] (.nm 2) (irev (var 1)) (asgS 0 (lift [0, 2] (callP F_divided [(var 0), (var 2)]))))
  (retS (mvG 0)))
def m_divided_by : SM := b_divided_by (fnP 9 m_divided)

def m_stair : SM :=
  (retS (lift [0] (opN dTupOf [(comp [1] (.nm 1) (irange1 (var 0)) yesP (op2 dSub (op2 dSub (var 0) (cst (.int 1))) (var 1)))])))

def b_sum_of (F_least_by : List D → PR) (F_divided_by : List (Bool × D) → PR) (F_stair : List D → PR) : SM :=
  (seqS (asgS 1 (lift [0] (opN dLen [(var 0)])))
  (seqS (asgS 2 (lift [0, 1] (opN dTupOf [(comp [3] (.nm 3) (irange1 (var 1)) yesP (tindexP (var 0) (op2 dSub (op2 dSub (var 1) (cst (.int 1))) (var 3))))])))
  (retS (lift [1, 2] (callPO 2 F_divided_by [(opN dLst [(opN dTup [(callP F_stair [(var 1)]), (cst (.int 1))])]), (callP F_least_by [(var 2)])])))))
def m_sum_of : SM := b_sum_of (fnP 6 m_least_by) (fnO 3 m_divided_by) (fnP 2 m_stair)

def b_order_sum (F_look_at_order : List D → PR) (F_sum_of : List D → PR) : SM :=
  (seqS (dropS (lift [0] (callP F_look_at_order [(var 0)])))
  (retS (lift [0] (callP F_sum_of [(var 0)]))))
def m_order_sum : SM := b_order_sum (fnP 1 m_look_at_order) (fnP 4 m_sum_of)

def m__law_mixed : SM :=
  (seqS (asgS 2 (lift [0, 1] (op2 dMod (op2 dAdd (op2 dAdd (op2 dMul (op2 dMod (var 0) (cst (.int 2147483647))) (cst (.int 48271))) (op2 dMul (var 1) (cst (.int 69621)))) (cst (.int 1048583))) (cst (.int 2147483629)))))
  (seqS (asgS 2 (lift [2] (op2 dMod (op2 dMul (var 2) (var 2)) (cst (.int 2147483587)))))
  (retS (lift [2] (op2 dMod (op2 dMul (var 2) (op2 dAdd (var 2) (cst (.int 2)))) (cst (.int 2147483579)))))))

def b__law_cell (F__law_mixed : List D → PR) : SM :=
  (seqS (asgS 2 (lift [] (cst (.int 0))))
  (seqS (ifS (op2 dLt (var 1) (opN dLen [(var 0)])) (asgS 2 (lift [0, 1] (op2 dIx (var 0) (var 1)))) passS)
  (seqS (ifS (op2 dGe (var 2) (op2 dPow (cst (.int 10)) (cst (.int 18)))) (retS (lift [2] (op2 dMod (op2 dSub (var 2) (op2 dPow (cst (.int 10)) (cst (.int 18)))) (op2 dMul (op2 dMul (op2 dMul (op2 dPow (cst (.int 10)) (cst (.int 60))) (op2 dPow (cst (.int 10)) (cst (.int 60)))) (op2 dPow (cst (.int 10)) (cst (.int 60)))) (op2 dPow (cst (.int 10)) (cst (.int 60))))))) passS)
  (seqS (asgS 3 (lift [] (cst (.int 0))))
  (seqS (forS [] (.nm 4) (irange1 (cst (.int 24))) (asgS 3 (lift [1, 2, 3, 4] (op2 dAdd (op2 dMul (var 3) (cst (.int 2147483579))) (callP F__law_mixed [(var 2), (op2 dAdd (op2 dAdd (op2 dMul (cst (.int 7)) (var 1)) (op2 dMul (cst (.int 100)) (var 4))) (op2 dMul (var 4) (var 4)))])))))
  (retS (mvG 3)))))))
def m__law_cell : SM := b__law_cell (fnP 3 m__law_mixed)

def m__law_take : SM :=
  (seqS (asgS 2 (lift [0, 1] (op2 dMod (op2 dIx (var 0) (cst (.int 0))) (var 1))))
  (seqS (setiS 0 (cst (.int 0)) (lift [0, 1] (op2 dDiv (op2 dIx (var 0) (cst (.int 0))) (var 1))))
  (retS (mvG 2))))

def b__law_order (F__law_take : List D → RR) : SM :=
  (seqS (asgS 2 (lift [1] (lstRg (rg1 (var 1)))))
  (seqS (asgS 3 (lift [] (opN dLst [])))
  (seqS (forS [1] (.nm 4) (irange1 (var 1)) (dropS (appendG 3 (popG 2 (callR 0 0 2 F__law_take [(.vr 0), (.ex (lift [1, 4] (op2 dSub (var 1) (var 4))))])))))
  (retS (lift [3] (opN dTupOf [(var 3)]))))))
def m__law_order : SM := b__law_order (fnR 3 0 m__law_take)

def m__law_swapped : SM :=
  (seqS (asgS 3 (lift [0] (opN dListOf [(var 0)])))
  (seqS (setiS 3 (var 1) (lift [0, 2] (op2 dIx (var 0) (var 2))))
  (seqS (setiS 3 (var 2) (lift [0, 1] (op2 dIx (var 0) (var 1))))
  (retS (lift [3] (opN dTupOf [(var 3)]))))))

def m__law_gathered : SM :=
  (retS (lift [0] (opN (dSortR true) [(comp [1, 2] (.tp [1, 2]) (iitems (var 0)) (op2 dNe (var 2) (cst (.int 0))) (opN dTup [(var 1), (var 2)]))])))

def m__law_whole : SM :=
  (retS (lift [0] (andP (op1 (isT "int") (var 0)) (notP (op1 (isT "bool") (var 0))))))

def b__law_is_poly (F__law_whole : List D → PR) : SM :=
  (seqS (ifS (notP (op1 (isT "list") (var 0))) (retS (lift [] (cst (.bl false)))) passS)
  (seqS (forS [0] (.nm 2) (iseq (var 0)) (seqS (ifS (orP (notP (op1 (isT "tuple") (var 2))) (orP (op2 dNe (opN dLen [(var 2)]) (cst (.int 2))) (orP (notP (op1 (isT "tuple") (op2 dIx (var 2) (cst (.int 0))))) (op2 dNe (opN dLen [(op2 dIx (var 2) (cst (.int 0)))]) (var 1))))) (retS (lift [] (cst (.bl false)))) passS)
  (ifS (orP (notP (opN dAll [(comp [3] (.nm 3) (iseq (op2 dIx (var 2) (cst (.int 0)))) yesP (andP (callP F__law_whole [(var 3)]) (op2 dGe (var 3) (cst (.int 0)))))])) (orP (notP (callP F__law_whole [(op2 dIx (var 2) (cst (.int 1)))])) (op2 dEq (op2 dIx (var 2) (cst (.int 1))) (cst (.int 0))))) (retS (lift [] (cst (.bl false)))) passS)))
  (retS (lift [0] (opN dAll [(comp [4] (.nm 4) (irange1 (op2 dSub (opN dLen [(var 0)]) (cst (.int 1)))) yesP (op2 dGtX (op2 dIx (op2 dIx (var 0) (var 4)) (cst (.int 0))) (op2 dIx (op2 dIx (var 0) (op2 dAdd (var 4) (cst (.int 1)))) (cst (.int 0)))))])))))
def m__law_is_poly : SM := b__law_is_poly (fnP 1 m__law_whole)

def b__law_table (F__law_swapped : List D → PR) : SM :=
  (seqS (asgS 1 (lift [] dnewP))
  (seqS (asgS 2 (lift [0] (opN dLst [(opN dTup [(opN dLst []), (tupRg (rg1 (var 0)))])])))
  (seqS (forS [0] (.nm 3) (irange1 (op2 dSub (var 0) (cst (.int 1)))) (forS [0, 3] (.nm 4) (irevR (rg1 (op2 dSub (op2 dSub (var 0) (cst (.int 1))) (var 3)))) (seqS (asgS 5 (lift [] (opN dLst [])))
  (seqS (forS [2] (.tp [6, 7]) (iseq (var 2)) (ifS (op2 dLt (op2 dIx (var 7) (op2 dAdd (var 3) (var 4))) (op2 dIx (var 7) (op2 dAdd (op2 dAdd (var 3) (var 4)) (cst (.int 1))))) (dropS (appendG 5 (lift [3, 4, 6, 7] (opN dTup [(op2 dAdd (var 6) (opN dLst [(opN dTup [(var 3), (var 4)])])), (callP F__law_swapped [(var 7), (op2 dAdd (var 3) (var 4)), (op2 dAdd (op2 dAdd (var 3) (var 4)) (cst (.int 1)))])])))) passS))
  (asgS 2 (lift [2, 5] (op2 dAdd (var 2) (var 5))))))))
  (seqS (forS [2] (.tp [6, 7]) (iseq (var 2)) (setdApp 1 (var 7) (opN dLst [(opN (dSortR false) [(var 6)])])))
  (retS (mvG 1))))))
def m__law_table : SM := b__law_table (fnP 4 m__law_swapped)

def m__law_terms : SM :=
  (retS (lift [0, 1] (opN dTupOf [(comp [2] (.nm 2) (irange1 (var 0)) yesP (opN dLen [(comp [3] (.nm 3) (iseq (var 1)) (op2 dEq (op2 dIx (var 3) (cst (.int 0))) (var 2)) (var 3))]))])))

def b__law_sum_of (F__law_gathered : List D → PR) (F__law_terms : List D → PR) : SM :=
  (seqS (asgS 2 (lift [] dnewP))
  (seqS (forS [1] (.nm 3) (iseq (var 1)) (seqS (asgS 4 (lift [0, 3] (callP F__law_terms [(var 0), (var 3)])))
  (setdS 2 (var 4) (lift [2, 4] (op2 dAdd (dgetP (var 2) (var 4) (cst (.int 0))) (cst (.int 1)))))))
  (retS (lift [2] (callP F__law_gathered [(var 2)])))))
def m__law_sum_of : SM := b__law_sum_of (fnP 3 m__law_gathered) (fnP 4 m__law_terms)

def b_law (F_order_sum : List D → PR) (F__law_cell : List D → PR) (F__law_take : List D → RR) (F__law_order : List D → RR) (F__law_is_poly : List D → PR) (F__law_table : List D → PR) (F__law_sum_of : List D → PR) : SM :=
  (seqS (forS [0] (.nm 1) (irange1 (opN dMax2 [(opN dMin2 [(opN dLen [(var 0)]), (cst (.int 4))]), (cst (.int 1))])) (seqS (asgS 2 (lift [0, 1] (opN dLst [(callP F__law_cell [(var 0), (var 1)])])))
  (seqS (asgS 3 (opNG (opf dAdd) [(.ex (lift [] (cst (.int 1)))), (.ex (callR 0 2 2 F__law_take [(.vr 2), (.ex (lift [] (cst (.int 5))))]))]))
  (seqS (asgS 4 (lift [3] (callP F__law_table [(var 3)])))
  (forG (.nm 5) (iseqG (lstS [(.ex (callR 0 2 2 F__law_order [(.vr 2), (.vr 3)])), (.ex (lift [3] (tupRg (rg1 (var 3))))), (.ex (lift [3] (tupRR (rg1 (var 3)))))])) (seqS (asgS 6 (lift [3, 4, 5] (callP F__law_sum_of [(var 3), (op2 dIxD (var 4) (var 5))])))
  (seqS (asgS 7 (lift [5] (callP F_order_sum [(var 5)])))
  (seqS (ifS (orP (notP (callP F__law_is_poly [(var 7), (var 3)])) (op2 dNe (var 7) (var 6))) (retS (lift [] (cst (.bl false)))) passS)
  (seqS (dropS (clearG 7))
  (scopeS [5, 6] [] (ifS (op2 dNe (callP F_order_sum [(var 5)]) (var 6)) (retS (lift [] (cst (.bl false)))) passS)))))))))))
  (retS (lift [] (cst (.bl true)))))
def m_law : SM := b_law (fnP 1 m_order_sum) (fnP 5 m__law_cell) (fnR 3 0 m__law_take) (fnR 5 0 m__law_order) (fnP 5 m__law_is_poly) (fnP 8 m__law_table) (fnP 5 m__law_sum_of)

end CB

namespace CB
open PySem L2 PySem.Spec PyProof.Rows
theorem b_is_order_le {F_is_whole G_is_whole : List D → PR} (h_is_whole : leF F_is_whole G_is_whole) : leS (b_is_order F_is_whole) (b_is_order G_is_whole) :=
  (seqS_le (fun _ => .inr rfl) (retS_le (lift_le (andP_le (opN_le (.cons (comp_le (fun _ => .inr rfl) leP.refl (callP_le h_is_whole (.cons leP.refl .nil))) .nil)) (fun _ => .inr rfl)))))

theorem b_least_by_le {F_plain G_plain : List D → PR} (h_plain : leF F_plain G_plain) : leS (b_least_by F_plain) (b_least_by G_plain) :=
  (seqS_le (fun _ => .inr rfl) (seqS_le (fun _ => .inr rfl) (seqS_le (whileS_le (liftT_le (op2_le leP.refl (callP_le h_plain (.cons (fun _ => .inr rfl) .nil)))) (fun _ => .inr rfl)) (fun _ => .inr rfl))))

theorem b_divided_le {F_gathered G_gathered : List D → PR} (h_gathered : leF F_gathered G_gathered) : leS (b_divided F_gathered) (b_divided G_gathered) :=
  (seqS_le (fun _ => .inr rfl) (seqS_le (fun _ => .inr rfl) (retS_le (lift_le (callP_le h_gathered (.cons leP.refl .nil))))))

theorem b_divided_by_le {F_divided G_divided : List D → PR} (h_divided : leF F_divided G_divided) : leS (b_divided_by F_divided) (b_divided_by G_divided) :=
  (seqS_le (forS_le (fun _ => .inr rfl) (asgS_le (lift_le (callP_le h_divided (.cons leP.refl (.cons leP.refl .nil)))))) (fun _ => .inr rfl))

theorem b_sum_of_le {F_least_by G_least_by : List D → PR} (h_least_by : leF F_least_by G_least_by) {F_divided_by G_divided_by : List (Bool × D) → PR} (h_divided_by : leFO F_divided_by G_divided_by) {F_stair G_stair : List D → PR} (h_stair : leF F_stair G_stair) : leS (b_sum_of F_least_by F_divided_by F_stair) (b_sum_of G_least_by G_divided_by G_stair) :=
  (seqS_le (fun _ => .inr rfl) (seqS_le (fun _ => .inr rfl) (retS_le (lift_le (callPO_le h_divided_by (.cons (opN_le (.cons (opN_le (.cons (callP_le h_stair (.cons leP.refl .nil)) (.cons leP.refl .nil))) .nil)) (.cons (callP_le h_least_by (.cons leP.refl .nil)) .nil)))))))

theorem b_order_sum_le {F_look_at_order G_look_at_order : List D → PR} (h_look_at_order : leF F_look_at_order G_look_at_order) {F_sum_of G_sum_of : List D → PR} (h_sum_of : leF F_sum_of G_sum_of) : leS (b_order_sum F_look_at_order F_sum_of) (b_order_sum G_look_at_order G_sum_of) :=
  (seqS_le (dropS_le (lift_le (callP_le h_look_at_order (.cons leP.refl .nil)))) (retS_le (lift_le (callP_le h_sum_of (.cons leP.refl .nil)))))

theorem b__law_cell_le {F__law_mixed G__law_mixed : List D → PR} (h__law_mixed : leF F__law_mixed G__law_mixed) : leS (b__law_cell F__law_mixed) (b__law_cell G__law_mixed) :=
  (seqS_le (fun _ => .inr rfl) (seqS_le (fun _ => .inr rfl) (seqS_le (fun _ => .inr rfl) (seqS_le (fun _ => .inr rfl) (seqS_le (forS_le (fun _ => .inr rfl) (asgS_le (lift_le (op2_le (fun _ => .inr rfl) (callP_le h__law_mixed (.cons leP.refl (.cons (fun _ => .inr rfl) .nil))))))) (fun _ => .inr rfl))))))

theorem b__law_order_le {F__law_take G__law_take : List D → RR} (h__law_take : leRF F__law_take G__law_take) : leS (b__law_order F__law_take) (b__law_order G__law_take) :=
  (seqS_le (fun _ => .inr rfl) (seqS_le (fun _ => .inr rfl) (seqS_le (forS_le (fun _ => .inr rfl) (dropS_le (appendG_le (popG_le (callR_le h__law_take (.cons .vr (.cons (.ex (fun _ => .inr rfl)) .nil))))))) (fun _ => .inr rfl))))

theorem b__law_is_poly_le {F__law_whole G__law_whole : List D → PR} (h__law_whole : leF F__law_whole G__law_whole) : leS (b__law_is_poly F__law_whole) (b__law_is_poly G__law_whole) :=
  (seqS_le (fun _ => .inr rfl) (seqS_le (forS_le (fun _ => .inr rfl) (seqS_le (fun _ => .inr rfl) (ifS_le (orP_le (notP_le (opN_le (.cons (comp_le (fun _ => .inr rfl) leP.refl (andP_le (callP_le h__law_whole (.cons leP.refl .nil)) (fun _ => .inr rfl))) .nil))) (orP_le (notP_le (callP_le h__law_whole (.cons (fun _ => .inr rfl) .nil))) (fun _ => .inr rfl))) (fun _ => .inr rfl) leS.refl))) (fun _ => .inr rfl)))

theorem b__law_table_le {F__law_swapped G__law_swapped : List D → PR} (h__law_swapped : leF F__law_swapped G__law_swapped) : leS (b__law_table F__law_swapped) (b__law_table G__law_swapped) :=
  (seqS_le (fun _ => .inr rfl) (seqS_le (fun _ => .inr rfl) (seqS_le (forS_le (fun _ => .inr rfl) (forS_le (fun _ => .inr rfl) (seqS_le (fun _ => .inr rfl) (seqS_le (forS_le (fun _ => .inr rfl) (ifS_le (fun _ => .inr rfl) (dropS_le (appendG_le (lift_le (opN_le (.cons (fun _ => .inr rfl) (.cons (callP_le h__law_swapped (.cons leP.refl (.cons (fun _ => .inr rfl) (.cons (fun _ => .inr rfl) .nil)))) .nil)))))) leS.refl)) (fun _ => .inr rfl))))) (fun _ => .inr rfl))))

theorem b_law_le {F_order_sum G_order_sum : List D → PR} (h_order_sum : leF F_order_sum G_order_sum) {F__law_cell G__law_cell : List D → PR} (h__law_cell : leF F__law_cell G__law_cell) {F__law_take G__law_take : List D → RR} (h__law_take : leRF F__law_take G__law_take) {F__law_order G__law_order : List D → RR} (h__law_order : leRF F__law_order G__law_order) {F__law_is_poly G__law_is_poly : List D → PR} (h__law_is_poly : leF F__law_is_poly G__law_is_poly) {F__law_table G__law_table : List D → PR} (h__law_table : leF F__law_table G__law_table) {F__law_sum_of G__law_sum_of : List D → PR} (h__law_sum_of : leF F__law_sum_of G__law_sum_of) : leS (b_law F_order_sum F__law_cell F__law_take F__law_order F__law_is_poly F__law_table F__law_sum_of) (b_law G_order_sum G__law_cell G__law_take G__law_order G__law_is_poly G__law_table G__law_sum_of) :=
  (seqS_le (forS_le (fun _ => .inr rfl) (seqS_le (asgS_le (lift_le (opN_le (.cons (callP_le h__law_cell (.cons leP.refl (.cons leP.refl .nil))) .nil)))) (seqS_le (asgS_le (opNG_le (.cons (.ex (fun _ => .inr rfl)) (.cons (.ex (callR_le h__law_take (.cons .vr (.cons (.ex (fun _ => .inr rfl)) .nil)))) .nil)))) (seqS_le (asgS_le (lift_le (callP_le h__law_table (.cons leP.refl .nil)))) (forG_le (iseqG_le (lstS_le (.cons (.ex (callR_le h__law_order (.cons .vr (.cons .vr .nil)))) (.cons (.ex (fun _ => .inr rfl)) (.cons (.ex (fun _ => .inr rfl)) .nil))))) (seqS_le (asgS_le (lift_le (callP_le h__law_sum_of (.cons leP.refl (.cons (fun _ => .inr rfl) .nil))))) (seqS_le (asgS_le (lift_le (callP_le h_order_sum (.cons leP.refl .nil)))) (seqS_le (ifS_le (orP_le (notP_le (callP_le h__law_is_poly (.cons leP.refl (.cons leP.refl .nil)))) (fun _ => .inr rfl)) (fun _ => .inr rfl) leS.refl) (seqS_le (fun _ => .inr rfl) (scopeS_le (ifS_le (op2_le (callP_le h_order_sum (.cons leP.refl .nil)) leP.refl) (fun _ => .inr rfl) leS.refl))))))))))) (fun _ => .inr rfl))

end CB

namespace CB
variable [CT]
/-! one step at a time -/
theorem op2_new {f : D → D → Option (Kd × D)} {a b : P} {env : Env} {fa fb : Bool} {x y d : D} (h1 : a env = .ok fa x) (h2 : b env = .ok fb y) (h : f x y = some (.new, d)) : op2 f a b env = .ok true d := by
  simp only [op2, h1, h2, PR.bind, h, Kd.fl]
theorem op1_new {f : D → Option (Kd × D)} {a : P} {env : Env} {fa : Bool} {x d : D} (h1 : a env = .ok fa x) (h : f x = some (.new, d)) : op1 f a env = .ok true d := by
  simp only [op1, h1, PR.bind, h, Kd.fl]
theorem opN1_new {f : List D → Option (Kd × D)} {a : P} {env : Env} {fa : Bool} {x d : D} (h1 : a env = .ok fa x) (h : f [x] = some (.new, d)) : opN f [a] env = .ok true d := by
  simp only [opN, args, h1, AR.bind, h, Kd.fl]
theorem opN2_new {f : List D → Option (Kd × D)} {a b : P} {env : Env} {fa fb : Bool} {x y d : D} (h1 : a env = .ok fa x) (h2 : b env = .ok fb y) (h : f [x, y] = some (.new, d)) : opN f [a, b] env = .ok true d := by
  simp only [opN, args, h1, h2, AR.bind, h, Kd.fl]
theorem tup2_new {a b : P} {env : Env} {fa fb : Bool} {x y : D} (h1 : a env = .ok fa x) (h2 : b env = .ok fb y) (g1 : noL x = true) (g2 : noL y = true) : opN dTup [a, b] env = .ok true (.tup [x, y]) := by
  have e : dTup [x, y] = some (.lin, .tup [x, y]) := rfl
  simp only [opN, args, h1, h2, AR.bind, e, Kd.fl, gfl, g1, g2, Bool.or_true, Bool.and_self]
theorem call1 {F : List D → PR} {a : P} {env : Env} {fa : Bool} {x : D} {r : PR} (h1 : a env = .ok fa x) (h : F [x] = r) : callP F [a] env = r := by
  simp only [callP, args, h1, AR.bind, h]
theorem call2 {F : List D → PR} {a b : P} {env : Env} {fa fb : Bool} {x y : D} {r : PR} (h1 : a env = .ok fa x) (h2 : b env = .ok fb y) (h : F [x, y] = r) : callP F [a, b] env = r := by
  simp only [callP, args, h1, h2, AR.bind, h]
theorem call3 {F : List D → PR} {a b c : P} {env : Env} {fa fb fc : Bool} {x y z : D} {r : PR} (h1 : a env = .ok fa x) (h2 : b env = .ok fb y) (h3 : c env = .ok fc z) (h : F [x, y, z] = r) : callP F [a, b, c] env = r := by
  simp only [callP, args, h1, h2, h3, AR.bind, h]
theorem not_ok {a : P} {env : Env} {f b : Bool} (h : a env = .ok f (.bl b)) : notP a env = .ok true (.bl (!b)) := by
  cases b <;> simp [notP, h, PR.bind]
theorem or_ff {a b : P} {env : Env} {f : Bool} (h : a env = .ok f (.bl false)) : orP a b env = b env := by
  simp [orP, h, PR.bind]
theorem if_ff {p : P} {m n : SM} {env : Env} {f : Bool} (h : p env = .ok f (.bl false)) : ifS p m n env = n env := by simp only [ifS, h]
theorem if_tt {p : P} {m n : SM} {env : Env} {f : Bool} (h : p env = .ok f (.bl true)) : ifS p m n env = m env := by simp only [ifS, h]
theorem ret_new {ks : List Nat} {p : P} {env : Env} {d : D} (h : p env = .ok true d) : retS (lift ks p) env = .rt true d env := by
  simp only [retS, lift, h, gfl, Bool.true_or, if_true]
theorem asg_new {ks : List Nat} {i : Nat} {p : P} {env : Env} {d : D} (h : p env = .ok true d) : asgS i (lift ks p) env = .nx (env.set i (.val true d)) := asg_ok (lift_new h rfl)
theorem if_no {p : P} {m : SM} {env : Env} {f : Bool} (h : p env = .ok f (.bl false)) : ifS p m passS env = .nx env := by simp only [ifS, h, passS]
/-! all rows of crosses, by the order they make, as the law's own table tells them -/
def cdr (c : Nat) : D := .tup [.int ((c / 5 : Nat) : Int), .int ((c % 5 : Nat) : Int)]
def rowsD (l : List (List Nat)) : D := .lst (l.map fun r => .lst (r.map cdr))
def eqC : List D → List Nat → Bool
  | [], [] => true
  | .tup [.int i, .int j] :: xs, c :: cs => decide (i = ((c / 5 : Nat) : Int)) && decide (j = ((c % 5 : Nat) : Int)) && eqC xs cs
  | _, _ => false
theorem eqC_of : ∀ {xs : List D} {cs : List Nat}, eqC xs cs = true → xs = cs.map cdr
  | [], [], _ => rfl
  | [], _ :: _, h => by simp [eqC] at h
  | x :: xs, cs, h => by
    unfold eqC at h
    split at h
    · cases ‹_ :: _ = _›
    · rename_i i j xs' c cs' heq
      cases heq
      simp only [Bool.and_eq_true, decide_eq_true_eq] at h
      rw [List.map_cons, ← eqC_of h.2, h.1.1, h.1.2]
      rfl
    · cases h
def eqR : List D → List (List Nat) → Bool
  | [], [] => true
  | .lst x :: xs, c :: cs => eqC x c && eqR xs cs
  | _, _ => false
theorem eqR_of : ∀ {xs : List D} {cs : List (List Nat)}, eqR xs cs = true → xs = cs.map fun r => .lst (r.map cdr)
  | [], [], _ => rfl
  | [], _ :: _, h => by simp [eqR] at h
  | x :: xs, cs, h => by
    unfold eqR at h
    split at h
    · cases ‹_ :: _ = _›
    · rename_i x' xs' c cs' heq
      cases heq
      rw [Bool.and_eq_true] at h
      rw [List.map_cons, ← eqR_of h.2, eqC_of h.1]
    · cases h
def eqV : List D → List (List (List Nat)) → Bool
  | [], [] => true
  | .lst x :: xs, c :: cs => eqR x c && eqV xs cs
  | _, _ => false
theorem eqV_of : ∀ {xs : List D} {cs : List (List (List Nat))}, eqV xs cs = true → xs = cs.map rowsD
  | [], [], _ => rfl
  | [], _ :: _, h => by simp [eqV] at h
  | x :: xs, cs, h => by
    unfold eqV at h
    split at h
    · cases ‹_ :: _ = _›
    · rename_i x' xs' c cs' heq
      cases heq
      rw [Bool.and_eq_true] at h
      rw [List.map_cons, ← eqV_of h.2, eqR_of h.1]
      rfl
    · cases h
def tabD (t : List (List Int × List (List Nat))) : D := .dic (t.map (·.1)) ((t.map (·.2)).map rowsD)
def mA (Sw : List D → PR) : SM := (seqS (asgS 1 (lift [] dnewP))
  (seqS (asgS 2 (lift [0] (opN dLst [(opN dTup [(opN dLst []), (tupRg (rg1 (var 0)))])])))
  (forS [0] (.nm 3) (irange1 (op2 dSub (var 0) (cst (.int 1)))) (forS [0, 3] (.nm 4) (irevR (rg1 (op2 dSub (op2 dSub (var 0) (cst (.int 1))) (var 3)))) (seqS (asgS 5 (lift [] (opN dLst [])))
  (seqS (forS [2] (.tp [6, 7]) (iseq (var 2)) (ifS (op2 dLt (op2 dIx (var 7) (op2 dAdd (var 3) (var 4))) (op2 dIx (var 7) (op2 dAdd (op2 dAdd (var 3) (var 4)) (cst (.int 1))))) (dropS (appendG 5 (lift [3, 4, 6, 7] (opN dTup [(op2 dAdd (var 6) (opN dLst [(opN dTup [(var 3), (var 4)])])), (callP Sw [(var 7), (op2 dAdd (var 3) (var 4)), (op2 dAdd (op2 dAdd (var 3) (var 4)) (cst (.int 1)))])])))) passS))
  (asgS 2 (lift [2, 5] (op2 dAdd (var 2) (var 5))))))))))
def eqW : List D → List (List Nat × List Int) → Bool
  | [], [] => true
  | .tup [.lst x, .tup y] :: xs, c :: cs => eqC x c.1 && decide (toInts y = some c.2) && eqW xs cs
  | _, _ => false
def rwX (r : SR) (l : List (List Nat × List Int)) : Bool := match r with
  | .nx [_, .val true (.dic [] []), .val f2 (.lst rs), _, _, _, _, _] => eqW rs l
  | _ => false
def rwC (n : Nat) (l : List (List Nat × List Int)) : Bool := rwX (mA (fnP 4 m__law_swapped) [.val false (.int (n : Nat)), .emp, .emp, .emp, .emp, .emp, .emp, .emp]) l
def rw1_0 : List (List Nat × List Int) := [([], [0])]
def rw1 : List (List Nat × List Int) := rw1_0
def rw2_0 : List (List Nat × List Int) := [([], [0, 1]), ([0], [1, 0])]
def rw2 : List (List Nat × List Int) := rw2_0
def rw3_0 : List (List Nat × List Int) := [([], [0, 1, 2]), ([1], [0, 2, 1]), ([0], [1, 0, 2]), ([1, 0], [2, 0, 1]), ([5], [0, 2, 1]), ([0, 5], [1, 2, 0]), ([1, 0, 5], [2, 1, 0])]
def rw3 : List (List Nat × List Int) := rw3_0
def rw4_0 : List (List Nat × List Int) := [([], [0, 1, 2, 3]), ([2], [0, 1, 3, 2]), ([1], [0, 2, 1, 3]), ([2, 1], [0, 3, 1, 2]), ([0], [1, 0, 2, 3]), ([2, 0], [1, 0, 3, 2]), ([1, 0], [2, 0, 1, 3]), ([2, 1, 0], [3, 0, 1, 2]), ([6], [0, 1, 3, 2]), ([1, 6], [0, 2, 3, 1]), ([2, 1, 6], [0, 3, 2, 1]), ([0, 6], [1, 0, 3, 2]), ([1, 0, 6], [2, 0, 3, 1]), ([2, 1, 0, 6], [3, 0, 2, 1]), ([5], [0, 2, 1, 3]), ([2, 5], [0, 3, 1, 2])]
def rw4_1 : List (List Nat × List Int) := [([0, 5], [1, 2, 0, 3]), ([2, 0, 5], [1, 3, 0, 2]), ([1, 0, 5], [2, 1, 0, 3]), ([2, 1, 0, 5], [3, 1, 0, 2]), ([6, 5], [0, 3, 1, 2]), ([1, 6, 5], [0, 3, 2, 1]), ([0, 6, 5], [1, 3, 0, 2]), ([1, 0, 6, 5], [2, 3, 0, 1]), ([2, 1, 0, 6, 5], [3, 2, 0, 1]), ([10], [0, 1, 3, 2]), ([1, 10], [0, 2, 3, 1]), ([2, 1, 10], [0, 3, 2, 1]), ([0, 10], [1, 0, 3, 2]), ([1, 0, 10], [2, 0, 3, 1]), ([2, 1, 0, 10], [3, 0, 2, 1]), ([5, 10], [0, 2, 3, 1])]
def rw4_2 : List (List Nat × List Int) := [([2, 5, 10], [0, 3, 2, 1]), ([0, 5, 10], [1, 2, 3, 0]), ([2, 0, 5, 10], [1, 3, 2, 0]), ([1, 0, 5, 10], [2, 1, 3, 0]), ([2, 1, 0, 5, 10], [3, 1, 2, 0]), ([6, 5, 10], [0, 3, 2, 1]), ([0, 6, 5, 10], [1, 3, 2, 0]), ([1, 0, 6, 5, 10], [2, 3, 1, 0]), ([2, 1, 0, 6, 5, 10], [3, 2, 1, 0])]
def rw4 : List (List Nat × List Int) := rw4_0 ++ rw4_1 ++ rw4_2
def rw5_0 : List (List Nat × List Int) := [([], [0, 1, 2, 3, 4]), ([3], [0, 1, 2, 4, 3]), ([2], [0, 1, 3, 2, 4]), ([3, 2], [0, 1, 4, 2, 3]), ([1], [0, 2, 1, 3, 4]), ([3, 1], [0, 2, 1, 4, 3]), ([2, 1], [0, 3, 1, 2, 4]), ([3, 2, 1], [0, 4, 1, 2, 3]), ([0], [1, 0, 2, 3, 4]), ([3, 0], [1, 0, 2, 4, 3]), ([2, 0], [1, 0, 3, 2, 4]), ([3, 2, 0], [1, 0, 4, 2, 3]), ([1, 0], [2, 0, 1, 3, 4]), ([3, 1, 0], [2, 0, 1, 4, 3]), ([2, 1, 0], [3, 0, 1, 2, 4]), ([3, 2, 1, 0], [4, 0, 1, 2, 3])]
def rw5_1 : List (List Nat × List Int) := [([7], [0, 1, 2, 4, 3]), ([2, 7], [0, 1, 3, 4, 2]), ([3, 2, 7], [0, 1, 4, 3, 2]), ([1, 7], [0, 2, 1, 4, 3]), ([2, 1, 7], [0, 3, 1, 4, 2]), ([3, 2, 1, 7], [0, 4, 1, 3, 2]), ([0, 7], [1, 0, 2, 4, 3]), ([2, 0, 7], [1, 0, 3, 4, 2]), ([3, 2, 0, 7], [1, 0, 4, 3, 2]), ([1, 0, 7], [2, 0, 1, 4, 3]), ([2, 1, 0, 7], [3, 0, 1, 4, 2]), ([3, 2, 1, 0, 7], [4, 0, 1, 3, 2]), ([6], [0, 1, 3, 2, 4]), ([3, 6], [0, 1, 4, 2, 3]), ([1, 6], [0, 2, 3, 1, 4]), ([3, 1, 6], [0, 2, 4, 1, 3])]
def rw5_2 : List (List Nat × List Int) := [([2, 1, 6], [0, 3, 2, 1, 4]), ([3, 2, 1, 6], [0, 4, 2, 1, 3]), ([0, 6], [1, 0, 3, 2, 4]), ([3, 0, 6], [1, 0, 4, 2, 3]), ([1, 0, 6], [2, 0, 3, 1, 4]), ([3, 1, 0, 6], [2, 0, 4, 1, 3]), ([2, 1, 0, 6], [3, 0, 2, 1, 4]), ([3, 2, 1, 0, 6], [4, 0, 2, 1, 3]), ([7, 6], [0, 1, 4, 2, 3]), ([2, 7, 6], [0, 1, 4, 3, 2]), ([1, 7, 6], [0, 2, 4, 1, 3]), ([2, 1, 7, 6], [0, 3, 4, 1, 2]), ([3, 2, 1, 7, 6], [0, 4, 3, 1, 2]), ([0, 7, 6], [1, 0, 4, 2, 3]), ([2, 0, 7, 6], [1, 0, 4, 3, 2]), ([1, 0, 7, 6], [2, 0, 4, 1, 3])]
def rw5_3 : List (List Nat × List Int) := [([2, 1, 0, 7, 6], [3, 0, 4, 1, 2]), ([3, 2, 1, 0, 7, 6], [4, 0, 3, 1, 2]), ([5], [0, 2, 1, 3, 4]), ([3, 5], [0, 2, 1, 4, 3]), ([2, 5], [0, 3, 1, 2, 4]), ([3, 2, 5], [0, 4, 1, 2, 3]), ([0, 5], [1, 2, 0, 3, 4]), ([3, 0, 5], [1, 2, 0, 4, 3]), ([2, 0, 5], [1, 3, 0, 2, 4]), ([3, 2, 0, 5], [1, 4, 0, 2, 3]), ([1, 0, 5], [2, 1, 0, 3, 4]), ([3, 1, 0, 5], [2, 1, 0, 4, 3]), ([2, 1, 0, 5], [3, 1, 0, 2, 4]), ([3, 2, 1, 0, 5], [4, 1, 0, 2, 3]), ([7, 5], [0, 2, 1, 4, 3]), ([2, 7, 5], [0, 3, 1, 4, 2])]
def rw5_4 : List (List Nat × List Int) := [([3, 2, 7, 5], [0, 4, 1, 3, 2]), ([0, 7, 5], [1, 2, 0, 4, 3]), ([2, 0, 7, 5], [1, 3, 0, 4, 2]), ([3, 2, 0, 7, 5], [1, 4, 0, 3, 2]), ([1, 0, 7, 5], [2, 1, 0, 4, 3]), ([2, 1, 0, 7, 5], [3, 1, 0, 4, 2]), ([3, 2, 1, 0, 7, 5], [4, 1, 0, 3, 2]), ([6, 5], [0, 3, 1, 2, 4]), ([3, 6, 5], [0, 4, 1, 2, 3]), ([1, 6, 5], [0, 3, 2, 1, 4]), ([3, 1, 6, 5], [0, 4, 2, 1, 3]), ([0, 6, 5], [1, 3, 0, 2, 4]), ([3, 0, 6, 5], [1, 4, 0, 2, 3]), ([1, 0, 6, 5], [2, 3, 0, 1, 4]), ([3, 1, 0, 6, 5], [2, 4, 0, 1, 3]), ([2, 1, 0, 6, 5], [3, 2, 0, 1, 4])]
def rw5_5 : List (List Nat × List Int) := [([3, 2, 1, 0, 6, 5], [4, 2, 0, 1, 3]), ([7, 6, 5], [0, 4, 1, 2, 3]), ([2, 7, 6, 5], [0, 4, 1, 3, 2]), ([1, 7, 6, 5], [0, 4, 2, 1, 3]), ([2, 1, 7, 6, 5], [0, 4, 3, 1, 2]), ([0, 7, 6, 5], [1, 4, 0, 2, 3]), ([2, 0, 7, 6, 5], [1, 4, 0, 3, 2]), ([1, 0, 7, 6, 5], [2, 4, 0, 1, 3]), ([2, 1, 0, 7, 6, 5], [3, 4, 0, 1, 2]), ([3, 2, 1, 0, 7, 6, 5], [4, 3, 0, 1, 2]), ([11], [0, 1, 2, 4, 3]), ([2, 11], [0, 1, 3, 4, 2]), ([3, 2, 11], [0, 1, 4, 3, 2]), ([1, 11], [0, 2, 1, 4, 3]), ([2, 1, 11], [0, 3, 1, 4, 2]), ([3, 2, 1, 11], [0, 4, 1, 3, 2])]
def rw5_6 : List (List Nat × List Int) := [([0, 11], [1, 0, 2, 4, 3]), ([2, 0, 11], [1, 0, 3, 4, 2]), ([3, 2, 0, 11], [1, 0, 4, 3, 2]), ([1, 0, 11], [2, 0, 1, 4, 3]), ([2, 1, 0, 11], [3, 0, 1, 4, 2]), ([3, 2, 1, 0, 11], [4, 0, 1, 3, 2]), ([6, 11], [0, 1, 3, 4, 2]), ([3, 6, 11], [0, 1, 4, 3, 2]), ([1, 6, 11], [0, 2, 3, 4, 1]), ([3, 1, 6, 11], [0, 2, 4, 3, 1]), ([2, 1, 6, 11], [0, 3, 2, 4, 1]), ([3, 2, 1, 6, 11], [0, 4, 2, 3, 1]), ([0, 6, 11], [1, 0, 3, 4, 2]), ([3, 0, 6, 11], [1, 0, 4, 3, 2]), ([1, 0, 6, 11], [2, 0, 3, 4, 1]), ([3, 1, 0, 6, 11], [2, 0, 4, 3, 1])]
def rw5_7 : List (List Nat × List Int) := [([2, 1, 0, 6, 11], [3, 0, 2, 4, 1]), ([3, 2, 1, 0, 6, 11], [4, 0, 2, 3, 1]), ([7, 6, 11], [0, 1, 4, 3, 2]), ([1, 7, 6, 11], [0, 2, 4, 3, 1]), ([2, 1, 7, 6, 11], [0, 3, 4, 2, 1]), ([3, 2, 1, 7, 6, 11], [0, 4, 3, 2, 1]), ([0, 7, 6, 11], [1, 0, 4, 3, 2]), ([1, 0, 7, 6, 11], [2, 0, 4, 3, 1]), ([2, 1, 0, 7, 6, 11], [3, 0, 4, 2, 1]), ([3, 2, 1, 0, 7, 6, 11], [4, 0, 3, 2, 1]), ([5, 11], [0, 2, 1, 4, 3]), ([2, 5, 11], [0, 3, 1, 4, 2]), ([3, 2, 5, 11], [0, 4, 1, 3, 2]), ([0, 5, 11], [1, 2, 0, 4, 3]), ([2, 0, 5, 11], [1, 3, 0, 4, 2]), ([3, 2, 0, 5, 11], [1, 4, 0, 3, 2])]
def rw5_8 : List (List Nat × List Int) := [([1, 0, 5, 11], [2, 1, 0, 4, 3]), ([2, 1, 0, 5, 11], [3, 1, 0, 4, 2]), ([3, 2, 1, 0, 5, 11], [4, 1, 0, 3, 2]), ([6, 5, 11], [0, 3, 1, 4, 2]), ([3, 6, 5, 11], [0, 4, 1, 3, 2]), ([1, 6, 5, 11], [0, 3, 2, 4, 1]), ([3, 1, 6, 5, 11], [0, 4, 2, 3, 1]), ([0, 6, 5, 11], [1, 3, 0, 4, 2]), ([3, 0, 6, 5, 11], [1, 4, 0, 3, 2]), ([1, 0, 6, 5, 11], [2, 3, 0, 4, 1]), ([3, 1, 0, 6, 5, 11], [2, 4, 0, 3, 1]), ([2, 1, 0, 6, 5, 11], [3, 2, 0, 4, 1]), ([3, 2, 1, 0, 6, 5, 11], [4, 2, 0, 3, 1]), ([7, 6, 5, 11], [0, 4, 1, 3, 2]), ([1, 7, 6, 5, 11], [0, 4, 2, 3, 1]), ([2, 1, 7, 6, 5, 11], [0, 4, 3, 2, 1])]
def rw5_9 : List (List Nat × List Int) := [([0, 7, 6, 5, 11], [1, 4, 0, 3, 2]), ([1, 0, 7, 6, 5, 11], [2, 4, 0, 3, 1]), ([2, 1, 0, 7, 6, 5, 11], [3, 4, 0, 2, 1]), ([3, 2, 1, 0, 7, 6, 5, 11], [4, 3, 0, 2, 1]), ([10], [0, 1, 3, 2, 4]), ([3, 10], [0, 1, 4, 2, 3]), ([1, 10], [0, 2, 3, 1, 4]), ([3, 1, 10], [0, 2, 4, 1, 3]), ([2, 1, 10], [0, 3, 2, 1, 4]), ([3, 2, 1, 10], [0, 4, 2, 1, 3]), ([0, 10], [1, 0, 3, 2, 4]), ([3, 0, 10], [1, 0, 4, 2, 3]), ([1, 0, 10], [2, 0, 3, 1, 4]), ([3, 1, 0, 10], [2, 0, 4, 1, 3]), ([2, 1, 0, 10], [3, 0, 2, 1, 4]), ([3, 2, 1, 0, 10], [4, 0, 2, 1, 3])]
def rw5_10 : List (List Nat × List Int) := [([7, 10], [0, 1, 4, 2, 3]), ([2, 7, 10], [0, 1, 4, 3, 2]), ([1, 7, 10], [0, 2, 4, 1, 3]), ([2, 1, 7, 10], [0, 3, 4, 1, 2]), ([3, 2, 1, 7, 10], [0, 4, 3, 1, 2]), ([0, 7, 10], [1, 0, 4, 2, 3]), ([2, 0, 7, 10], [1, 0, 4, 3, 2]), ([1, 0, 7, 10], [2, 0, 4, 1, 3]), ([2, 1, 0, 7, 10], [3, 0, 4, 1, 2]), ([3, 2, 1, 0, 7, 10], [4, 0, 3, 1, 2]), ([5, 10], [0, 2, 3, 1, 4]), ([3, 5, 10], [0, 2, 4, 1, 3]), ([2, 5, 10], [0, 3, 2, 1, 4]), ([3, 2, 5, 10], [0, 4, 2, 1, 3]), ([0, 5, 10], [1, 2, 3, 0, 4]), ([3, 0, 5, 10], [1, 2, 4, 0, 3])]
def rw5_11 : List (List Nat × List Int) := [([2, 0, 5, 10], [1, 3, 2, 0, 4]), ([3, 2, 0, 5, 10], [1, 4, 2, 0, 3]), ([1, 0, 5, 10], [2, 1, 3, 0, 4]), ([3, 1, 0, 5, 10], [2, 1, 4, 0, 3]), ([2, 1, 0, 5, 10], [3, 1, 2, 0, 4]), ([3, 2, 1, 0, 5, 10], [4, 1, 2, 0, 3]), ([7, 5, 10], [0, 2, 4, 1, 3]), ([2, 7, 5, 10], [0, 3, 4, 1, 2]), ([3, 2, 7, 5, 10], [0, 4, 3, 1, 2]), ([0, 7, 5, 10], [1, 2, 4, 0, 3]), ([2, 0, 7, 5, 10], [1, 3, 4, 0, 2]), ([3, 2, 0, 7, 5, 10], [1, 4, 3, 0, 2]), ([1, 0, 7, 5, 10], [2, 1, 4, 0, 3]), ([2, 1, 0, 7, 5, 10], [3, 1, 4, 0, 2]), ([3, 2, 1, 0, 7, 5, 10], [4, 1, 3, 0, 2]), ([6, 5, 10], [0, 3, 2, 1, 4])]
def rw5_12 : List (List Nat × List Int) := [([3, 6, 5, 10], [0, 4, 2, 1, 3]), ([0, 6, 5, 10], [1, 3, 2, 0, 4]), ([3, 0, 6, 5, 10], [1, 4, 2, 0, 3]), ([1, 0, 6, 5, 10], [2, 3, 1, 0, 4]), ([3, 1, 0, 6, 5, 10], [2, 4, 1, 0, 3]), ([2, 1, 0, 6, 5, 10], [3, 2, 1, 0, 4]), ([3, 2, 1, 0, 6, 5, 10], [4, 2, 1, 0, 3]), ([7, 6, 5, 10], [0, 4, 2, 1, 3]), ([2, 7, 6, 5, 10], [0, 4, 3, 1, 2]), ([0, 7, 6, 5, 10], [1, 4, 2, 0, 3]), ([2, 0, 7, 6, 5, 10], [1, 4, 3, 0, 2]), ([1, 0, 7, 6, 5, 10], [2, 4, 1, 0, 3]), ([2, 1, 0, 7, 6, 5, 10], [3, 4, 1, 0, 2]), ([3, 2, 1, 0, 7, 6, 5, 10], [4, 3, 1, 0, 2]), ([11, 10], [0, 1, 4, 2, 3]), ([2, 11, 10], [0, 1, 4, 3, 2])]
def rw5_13 : List (List Nat × List Int) := [([1, 11, 10], [0, 2, 4, 1, 3]), ([2, 1, 11, 10], [0, 3, 4, 1, 2]), ([3, 2, 1, 11, 10], [0, 4, 3, 1, 2]), ([0, 11, 10], [1, 0, 4, 2, 3]), ([2, 0, 11, 10], [1, 0, 4, 3, 2]), ([1, 0, 11, 10], [2, 0, 4, 1, 3]), ([2, 1, 0, 11, 10], [3, 0, 4, 1, 2]), ([3, 2, 1, 0, 11, 10], [4, 0, 3, 1, 2]), ([6, 11, 10], [0, 1, 4, 3, 2]), ([1, 6, 11, 10], [0, 2, 4, 3, 1]), ([2, 1, 6, 11, 10], [0, 3, 4, 2, 1]), ([3, 2, 1, 6, 11, 10], [0, 4, 3, 2, 1]), ([0, 6, 11, 10], [1, 0, 4, 3, 2]), ([1, 0, 6, 11, 10], [2, 0, 4, 3, 1]), ([2, 1, 0, 6, 11, 10], [3, 0, 4, 2, 1]), ([3, 2, 1, 0, 6, 11, 10], [4, 0, 3, 2, 1])]
def rw5_14 : List (List Nat × List Int) := [([5, 11, 10], [0, 2, 4, 1, 3]), ([2, 5, 11, 10], [0, 3, 4, 1, 2]), ([3, 2, 5, 11, 10], [0, 4, 3, 1, 2]), ([0, 5, 11, 10], [1, 2, 4, 0, 3]), ([2, 0, 5, 11, 10], [1, 3, 4, 0, 2]), ([3, 2, 0, 5, 11, 10], [1, 4, 3, 0, 2]), ([1, 0, 5, 11, 10], [2, 1, 4, 0, 3]), ([2, 1, 0, 5, 11, 10], [3, 1, 4, 0, 2]), ([3, 2, 1, 0, 5, 11, 10], [4, 1, 3, 0, 2]), ([6, 5, 11, 10], [0, 3, 4, 1, 2]), ([3, 6, 5, 11, 10], [0, 4, 3, 1, 2]), ([1, 6, 5, 11, 10], [0, 3, 4, 2, 1]), ([3, 1, 6, 5, 11, 10], [0, 4, 3, 2, 1]), ([0, 6, 5, 11, 10], [1, 3, 4, 0, 2]), ([3, 0, 6, 5, 11, 10], [1, 4, 3, 0, 2]), ([1, 0, 6, 5, 11, 10], [2, 3, 4, 0, 1])]
def rw5_15 : List (List Nat × List Int) := [([3, 1, 0, 6, 5, 11, 10], [2, 4, 3, 0, 1]), ([2, 1, 0, 6, 5, 11, 10], [3, 2, 4, 0, 1]), ([3, 2, 1, 0, 6, 5, 11, 10], [4, 2, 3, 0, 1]), ([7, 6, 5, 11, 10], [0, 4, 3, 1, 2]), ([1, 7, 6, 5, 11, 10], [0, 4, 3, 2, 1]), ([0, 7, 6, 5, 11, 10], [1, 4, 3, 0, 2]), ([1, 0, 7, 6, 5, 11, 10], [2, 4, 3, 0, 1]), ([2, 1, 0, 7, 6, 5, 11, 10], [3, 4, 2, 0, 1]), ([3, 2, 1, 0, 7, 6, 5, 11, 10], [4, 3, 2, 0, 1]), ([15], [0, 1, 2, 4, 3]), ([2, 15], [0, 1, 3, 4, 2]), ([3, 2, 15], [0, 1, 4, 3, 2]), ([1, 15], [0, 2, 1, 4, 3]), ([2, 1, 15], [0, 3, 1, 4, 2]), ([3, 2, 1, 15], [0, 4, 1, 3, 2]), ([0, 15], [1, 0, 2, 4, 3])]
def rw5_16 : List (List Nat × List Int) := [([2, 0, 15], [1, 0, 3, 4, 2]), ([3, 2, 0, 15], [1, 0, 4, 3, 2]), ([1, 0, 15], [2, 0, 1, 4, 3]), ([2, 1, 0, 15], [3, 0, 1, 4, 2]), ([3, 2, 1, 0, 15], [4, 0, 1, 3, 2]), ([6, 15], [0, 1, 3, 4, 2]), ([3, 6, 15], [0, 1, 4, 3, 2]), ([1, 6, 15], [0, 2, 3, 4, 1]), ([3, 1, 6, 15], [0, 2, 4, 3, 1]), ([2, 1, 6, 15], [0, 3, 2, 4, 1]), ([3, 2, 1, 6, 15], [0, 4, 2, 3, 1]), ([0, 6, 15], [1, 0, 3, 4, 2]), ([3, 0, 6, 15], [1, 0, 4, 3, 2]), ([1, 0, 6, 15], [2, 0, 3, 4, 1]), ([3, 1, 0, 6, 15], [2, 0, 4, 3, 1]), ([2, 1, 0, 6, 15], [3, 0, 2, 4, 1])]
def rw5_17 : List (List Nat × List Int) := [([3, 2, 1, 0, 6, 15], [4, 0, 2, 3, 1]), ([7, 6, 15], [0, 1, 4, 3, 2]), ([1, 7, 6, 15], [0, 2, 4, 3, 1]), ([2, 1, 7, 6, 15], [0, 3, 4, 2, 1]), ([3, 2, 1, 7, 6, 15], [0, 4, 3, 2, 1]), ([0, 7, 6, 15], [1, 0, 4, 3, 2]), ([1, 0, 7, 6, 15], [2, 0, 4, 3, 1]), ([2, 1, 0, 7, 6, 15], [3, 0, 4, 2, 1]), ([3, 2, 1, 0, 7, 6, 15], [4, 0, 3, 2, 1]), ([5, 15], [0, 2, 1, 4, 3]), ([2, 5, 15], [0, 3, 1, 4, 2]), ([3, 2, 5, 15], [0, 4, 1, 3, 2]), ([0, 5, 15], [1, 2, 0, 4, 3]), ([2, 0, 5, 15], [1, 3, 0, 4, 2]), ([3, 2, 0, 5, 15], [1, 4, 0, 3, 2]), ([1, 0, 5, 15], [2, 1, 0, 4, 3])]
def rw5_18 : List (List Nat × List Int) := [([2, 1, 0, 5, 15], [3, 1, 0, 4, 2]), ([3, 2, 1, 0, 5, 15], [4, 1, 0, 3, 2]), ([6, 5, 15], [0, 3, 1, 4, 2]), ([3, 6, 5, 15], [0, 4, 1, 3, 2]), ([1, 6, 5, 15], [0, 3, 2, 4, 1]), ([3, 1, 6, 5, 15], [0, 4, 2, 3, 1]), ([0, 6, 5, 15], [1, 3, 0, 4, 2]), ([3, 0, 6, 5, 15], [1, 4, 0, 3, 2]), ([1, 0, 6, 5, 15], [2, 3, 0, 4, 1]), ([3, 1, 0, 6, 5, 15], [2, 4, 0, 3, 1]), ([2, 1, 0, 6, 5, 15], [3, 2, 0, 4, 1]), ([3, 2, 1, 0, 6, 5, 15], [4, 2, 0, 3, 1]), ([7, 6, 5, 15], [0, 4, 1, 3, 2]), ([1, 7, 6, 5, 15], [0, 4, 2, 3, 1]), ([2, 1, 7, 6, 5, 15], [0, 4, 3, 2, 1]), ([0, 7, 6, 5, 15], [1, 4, 0, 3, 2])]
def rw5_19 : List (List Nat × List Int) := [([1, 0, 7, 6, 5, 15], [2, 4, 0, 3, 1]), ([2, 1, 0, 7, 6, 5, 15], [3, 4, 0, 2, 1]), ([3, 2, 1, 0, 7, 6, 5, 15], [4, 3, 0, 2, 1]), ([10, 15], [0, 1, 3, 4, 2]), ([3, 10, 15], [0, 1, 4, 3, 2]), ([1, 10, 15], [0, 2, 3, 4, 1]), ([3, 1, 10, 15], [0, 2, 4, 3, 1]), ([2, 1, 10, 15], [0, 3, 2, 4, 1]), ([3, 2, 1, 10, 15], [0, 4, 2, 3, 1]), ([0, 10, 15], [1, 0, 3, 4, 2]), ([3, 0, 10, 15], [1, 0, 4, 3, 2]), ([1, 0, 10, 15], [2, 0, 3, 4, 1]), ([3, 1, 0, 10, 15], [2, 0, 4, 3, 1]), ([2, 1, 0, 10, 15], [3, 0, 2, 4, 1]), ([3, 2, 1, 0, 10, 15], [4, 0, 2, 3, 1]), ([7, 10, 15], [0, 1, 4, 3, 2])]
def rw5_20 : List (List Nat × List Int) := [([1, 7, 10, 15], [0, 2, 4, 3, 1]), ([2, 1, 7, 10, 15], [0, 3, 4, 2, 1]), ([3, 2, 1, 7, 10, 15], [0, 4, 3, 2, 1]), ([0, 7, 10, 15], [1, 0, 4, 3, 2]), ([1, 0, 7, 10, 15], [2, 0, 4, 3, 1]), ([2, 1, 0, 7, 10, 15], [3, 0, 4, 2, 1]), ([3, 2, 1, 0, 7, 10, 15], [4, 0, 3, 2, 1]), ([5, 10, 15], [0, 2, 3, 4, 1]), ([3, 5, 10, 15], [0, 2, 4, 3, 1]), ([2, 5, 10, 15], [0, 3, 2, 4, 1]), ([3, 2, 5, 10, 15], [0, 4, 2, 3, 1]), ([0, 5, 10, 15], [1, 2, 3, 4, 0]), ([3, 0, 5, 10, 15], [1, 2, 4, 3, 0]), ([2, 0, 5, 10, 15], [1, 3, 2, 4, 0]), ([3, 2, 0, 5, 10, 15], [1, 4, 2, 3, 0]), ([1, 0, 5, 10, 15], [2, 1, 3, 4, 0])]
def rw5_21 : List (List Nat × List Int) := [([3, 1, 0, 5, 10, 15], [2, 1, 4, 3, 0]), ([2, 1, 0, 5, 10, 15], [3, 1, 2, 4, 0]), ([3, 2, 1, 0, 5, 10, 15], [4, 1, 2, 3, 0]), ([7, 5, 10, 15], [0, 2, 4, 3, 1]), ([2, 7, 5, 10, 15], [0, 3, 4, 2, 1]), ([3, 2, 7, 5, 10, 15], [0, 4, 3, 2, 1]), ([0, 7, 5, 10, 15], [1, 2, 4, 3, 0]), ([2, 0, 7, 5, 10, 15], [1, 3, 4, 2, 0]), ([3, 2, 0, 7, 5, 10, 15], [1, 4, 3, 2, 0]), ([1, 0, 7, 5, 10, 15], [2, 1, 4, 3, 0]), ([2, 1, 0, 7, 5, 10, 15], [3, 1, 4, 2, 0]), ([3, 2, 1, 0, 7, 5, 10, 15], [4, 1, 3, 2, 0]), ([6, 5, 10, 15], [0, 3, 2, 4, 1]), ([3, 6, 5, 10, 15], [0, 4, 2, 3, 1]), ([0, 6, 5, 10, 15], [1, 3, 2, 4, 0]), ([3, 0, 6, 5, 10, 15], [1, 4, 2, 3, 0])]
def rw5_22 : List (List Nat × List Int) := [([1, 0, 6, 5, 10, 15], [2, 3, 1, 4, 0]), ([3, 1, 0, 6, 5, 10, 15], [2, 4, 1, 3, 0]), ([2, 1, 0, 6, 5, 10, 15], [3, 2, 1, 4, 0]), ([3, 2, 1, 0, 6, 5, 10, 15], [4, 2, 1, 3, 0]), ([7, 6, 5, 10, 15], [0, 4, 2, 3, 1]), ([2, 7, 6, 5, 10, 15], [0, 4, 3, 2, 1]), ([0, 7, 6, 5, 10, 15], [1, 4, 2, 3, 0]), ([2, 0, 7, 6, 5, 10, 15], [1, 4, 3, 2, 0]), ([1, 0, 7, 6, 5, 10, 15], [2, 4, 1, 3, 0]), ([2, 1, 0, 7, 6, 5, 10, 15], [3, 4, 1, 2, 0]), ([3, 2, 1, 0, 7, 6, 5, 10, 15], [4, 3, 1, 2, 0]), ([11, 10, 15], [0, 1, 4, 3, 2]), ([1, 11, 10, 15], [0, 2, 4, 3, 1]), ([2, 1, 11, 10, 15], [0, 3, 4, 2, 1]), ([3, 2, 1, 11, 10, 15], [0, 4, 3, 2, 1]), ([0, 11, 10, 15], [1, 0, 4, 3, 2])]
def rw5_23 : List (List Nat × List Int) := [([1, 0, 11, 10, 15], [2, 0, 4, 3, 1]), ([2, 1, 0, 11, 10, 15], [3, 0, 4, 2, 1]), ([3, 2, 1, 0, 11, 10, 15], [4, 0, 3, 2, 1]), ([5, 11, 10, 15], [0, 2, 4, 3, 1]), ([2, 5, 11, 10, 15], [0, 3, 4, 2, 1]), ([3, 2, 5, 11, 10, 15], [0, 4, 3, 2, 1]), ([0, 5, 11, 10, 15], [1, 2, 4, 3, 0]), ([2, 0, 5, 11, 10, 15], [1, 3, 4, 2, 0]), ([3, 2, 0, 5, 11, 10, 15], [1, 4, 3, 2, 0]), ([1, 0, 5, 11, 10, 15], [2, 1, 4, 3, 0]), ([2, 1, 0, 5, 11, 10, 15], [3, 1, 4, 2, 0]), ([3, 2, 1, 0, 5, 11, 10, 15], [4, 1, 3, 2, 0]), ([6, 5, 11, 10, 15], [0, 3, 4, 2, 1]), ([3, 6, 5, 11, 10, 15], [0, 4, 3, 2, 1]), ([0, 6, 5, 11, 10, 15], [1, 3, 4, 2, 0]), ([3, 0, 6, 5, 11, 10, 15], [1, 4, 3, 2, 0])]
def rw5_24 : List (List Nat × List Int) := [([1, 0, 6, 5, 11, 10, 15], [2, 3, 4, 1, 0]), ([3, 1, 0, 6, 5, 11, 10, 15], [2, 4, 3, 1, 0]), ([2, 1, 0, 6, 5, 11, 10, 15], [3, 2, 4, 1, 0]), ([3, 2, 1, 0, 6, 5, 11, 10, 15], [4, 2, 3, 1, 0]), ([7, 6, 5, 11, 10, 15], [0, 4, 3, 2, 1]), ([0, 7, 6, 5, 11, 10, 15], [1, 4, 3, 2, 0]), ([1, 0, 7, 6, 5, 11, 10, 15], [2, 4, 3, 1, 0]), ([2, 1, 0, 7, 6, 5, 11, 10, 15], [3, 4, 2, 1, 0]), ([3, 2, 1, 0, 7, 6, 5, 11, 10, 15], [4, 3, 2, 1, 0])]
def rw5 : List (List Nat × List Int) := rw5_0 ++ rw5_1 ++ rw5_2 ++ rw5_3 ++ rw5_4 ++ rw5_5 ++ rw5_6 ++ rw5_7 ++ rw5_8 ++ rw5_9 ++ rw5_10 ++ rw5_11 ++ rw5_12 ++ rw5_13 ++ rw5_14 ++ rw5_15 ++ rw5_16 ++ rw5_17 ++ rw5_18 ++ rw5_19 ++ rw5_20 ++ rw5_21 ++ rw5_22 ++ rw5_23 ++ rw5_24
theorem rwC_1 : rwC 1 rw1 = true := by decide +kernel
theorem rwC_2 : rwC 2 rw2 = true := by decide +kernel
theorem rwC_3 : rwC 3 rw3 = true := by decide +kernel
theorem rwC_4 : rwC 4 rw4 = true := by decide +kernel
theorem rwC_5 : rwC 5 rw5 = true := by decide +kernel
/-! what the law puts into its table -/
def ins (a : Nat) : List Nat → List Nat
  | [] => [a]
  | b :: l => if a ≤ b then a :: b :: l else b :: ins a l
def isrt : List Nat → List Nat
  | [] => []
  | a :: l => ins a (isrt l)
abbrev Tb := List (List Int × List (List Nat))
def addU (o : List Int) (r : List Nat) : Tb → Tb
  | [] => [(o, [r])]
  | z :: t => if z.1 = o then (z.1, z.2 ++ [r]) :: t else z :: addU o r t
def lkT (o : List Int) : Tb → Option (List (List Nat))
  | [] => none
  | z :: t => if z.1 = o then some z.2 else lkT o t
theorem lk_add (p o : List Int) (r : List Nat) : ∀ t : Tb, lkT o (addU p r t) = if p = o then some ((lkT o t).getD [] ++ [r]) else lkT o t
  | [] => by
    simp only [addU, lkT]
    split <;> rfl
  | z :: t => by
    simp only [addU]
    by_cases e : z.1 = p
    · rw [if_pos e]
      simp only [lkT]
      by_cases e2 : z.1 = o
      · rw [if_pos e2, if_pos e2, if_pos (e.symm.trans e2)]; rfl
      · rw [if_neg e2, if_neg e2, if_neg fun h => e2 (e.trans h)]
    · rw [if_neg e]
      simp only [lkT]
      by_cases e2 : z.1 = o
      · rw [if_pos e2, if_pos e2, if_neg fun h => e (e2.trans h.symm)]
      · rw [if_neg e2, if_neg e2, lk_add p o r t]
def putR (t : Tb) (z : List Nat × List Int) : Tb := addU z.2 (isrt z.1) t
def sel (o : List Int) : List (List Nat × List Int) → List (List Nat)
  | [] => []
  | z :: rs => if z.2 = o then isrt z.1 :: sel o rs else sel o rs
theorem lk_fold (o : List Int) : ∀ (rs : List (List Nat × List Int)) (t : Tb), (lkT o (rs.foldl putR t)).getD [] = (lkT o t).getD [] ++ sel o rs
  | [], t => by simp [sel]
  | z :: rs, t => by
    rw [List.foldl_cons, lk_fold o rs]
    simp only [putR, lk_add, sel]
    split
    · simp
    · rfl
theorem lk_sel {o : List Int} {rs : List (List Nat × List Int)} (h : sel o rs ≠ []) : lkT o (rs.foldl putR []) = some (sel o rs) := by
  have := lk_fold o rs []
  cases e : lkT o (rs.foldl putR []) with
  | none => rw [e] at this; exact absurd this.symm (by simpa [lkT] using h)
  | some l => rw [e] at this; simpa [lkT] using this
def rwD (z : List Nat × List Int) : D := .tup [.lst (z.1.map cdr), .tup (z.2.map .int)]
theorem eqW_of : ∀ {xs : List D} {cs : List (List Nat × List Int)}, eqW xs cs = true → xs = cs.map rwD
  | [], [], _ => rfl
  | [], _ :: _, h => by simp [eqW] at h
  | x :: xs, cs, h => by
    unfold eqW at h
    split at h
    · cases ‹_ :: _ = _›
    · rename_i x' y xs' c cs' heq
      cases heq
      simp only [Bool.and_eq_true, decide_eq_true_eq] at h
      rw [List.map_cons, ← eqW_of h.2, eqC_of h.1.1, toInts_eq h.1.2]
      rfl
    · cases h
def vsT (t : Tb) : List D := (t.map (·.2)).map rowsD
def tabU (t : Tb) : D := .dic (t.map (·.1)) (vsT t)
theorem dval_tab (o : List Int) : ∀ t : Tb, dval (t.map (·.1)) (vsT t) o = (lkT o t).map rowsD
  | [] => rfl
  | z :: t => by
    simp only [vsT, List.map_cons, dval, lkT]
    split
    · rfl
    · exact dval_tab o t
theorem kput_tab (o : List Int) (r : List Nat) : ∀ t : Tb, kput (t.map (·.1)) o = (addU o r t).map (·.1)
  | [] => rfl
  | z :: t => by
    simp only [List.map_cons, kput, addU]
    split
    · rfl
    · rw [List.map_cons, kput_tab o r t]
theorem vput_tab (o : List Int) (r : List Nat) : ∀ t : Tb, CB.vput (t.map (·.1)) (vsT t) o (rowsD ((lkT o t).getD [] ++ [r])) = vsT (addU o r t)
  | [] => rfl
  | z :: t => by
    simp only [vsT, List.map_cons, CB.vput, addU, lkT]
    split
    · rfl
    · simp only [List.map_cons]
      exact congrArg _ (vput_tab o r t)
def Bt (k : Nat) (t : Tb) : Prop := t.length ≤ k ∧ ∀ z ∈ t, z.2.length ≤ k
theorem Bt.lk {k : Nat} {o : List Int} : ∀ {t : Tb}, Bt k t → ((lkT o t).getD []).length ≤ k
  | [], _ => by simp [lkT]
  | z :: t, h => by
    simp only [lkT]
    split
    · exact h.2 z List.mem_cons_self
    · exact Bt.lk ⟨by have := h.1; simp at this; omega, fun y hy => h.2 y (List.mem_cons_of_mem _ hy)⟩
theorem add_len (o : List Int) (r : List Nat) : ∀ t : Tb, (addU o r t).length ≤ t.length + 1
  | [] => by simp [addU]
  | z :: t => by
    simp only [addU]
    split
    · simp
    · have := add_len o r t
      simp only [List.length_cons]; omega
theorem add_mem (o : List Int) (r : List Nat) {k : Nat} : ∀ {t : Tb}, (∀ z ∈ t, z.2.length ≤ k) → ∀ z ∈ addU o r t, z.2.length ≤ k + 1
  | [], _, z, hz => by
    simp only [addU, List.mem_singleton] at hz
    subst hz; simp
  | y :: t, h, z, hz => by
    simp only [addU] at hz
    split at hz
    · rcases List.mem_cons.mp hz with e | e
      · subst e
        have := h y List.mem_cons_self
        simp; omega
      · have := h z (List.mem_cons_of_mem _ e); omega
    · rcases List.mem_cons.mp hz with e | e
      · subst e
        have := h z List.mem_cons_self; omega
      · exact add_mem o r (fun w hw => h w (List.mem_cons_of_mem _ hw)) z e
theorem Bt.add {k : Nat} {t : Tb} (h : Bt k t) (o : List Int) (r : List Nat) : Bt (k + 1) (addU o r t) := ⟨by have := add_len o r t; have := h.1; omega, add_mem o r h.2⟩
theorem setApp_ok {kp lp : P} {env : Env} {t : Tb} {k : Nat} {o : List Int} {r : List Nat} {f : Bool} (hb : Bt k t) (hk : k ≤ 1000) (h1 : env[1]? = some (.val true (tabU t))) (h2 : kp env = .ok f (.tup (o.map .int))) (h3 : lp env = .ok true (.lst [.lst (r.map cdr)])) : setdApp 1 kp lp env = .nx (env.set 1 (.val true (tabU (addU o r t)))) := by
  have e1 : myDic env 1 = some (.val true (tabU t), t.map (·.1), vsT t) := by simp only [myDic, h1]; rfl
  have hko : keyOf (.tup (o.map .int)) = some o := keyI_map o
  have z1 : szOk (t.map (·.1)).length = true := szOk_small (by have := hb.1; simp; omega)
  have hl := hb.lk (o := o)
  simp only [setdApp, e1, h2, hko, h3, z1, if_true, dval_tab]
  cases e : lkT o t with
  | none =>
    have := vput_tab o r t
    rw [e] at this
    have z : szOk [D.lst (r.map cdr)].length = true := rfl
    have q : D.lst [.lst (r.map cdr)] = rowsD ((none : Option (List (List Nat))).getD [] ++ [r]) := rfl
    simp only [Option.map_none, z, if_true]
    rw [q, this, kput_tab o r]
    rfl
  | some l =>
    have := vput_tab o r t
    rw [e] at this hl
    have z : szOk ((l.map fun r => D.lst (r.map cdr)).length + [D.lst (r.map cdr)].length) = true := szOk_small (by simp at hl ⊢; omega)
    have q : D.lst ((l.map fun r => D.lst (r.map cdr)) ++ [.lst (r.map cdr)]) = rowsD ((some l).getD [] ++ [r]) := by simp [rowsD]
    simp only [Option.map_some, rowsD, z, if_true]
    rw [q, this, kput_tab o r]
    rfl
def lpS : P := (opN dLst [(opN (dSortR false) [(var 6)])])
def srC (c : List Nat) : Bool := match lpS [.emp, .emp, .emp, .emp, .emp, .emp, .val false (.lst (c.map cdr)), .emp] with
  | .ok true (.lst [.lst ys]) => eqC ys (isrt c)
  | _ => false
theorem srC_of {c : List Nat} (h : srC c = true) (s0 s1 s2 s3 s4 s5 s7 : Sl) : lpS [s0, s1, s2, s3, s4, s5, .val false (.lst (c.map cdr)), s7] = .ok true (.lst [.lst ((isrt c).map cdr)]) := by
  have e : lpS [s0, s1, s2, s3, s4, s5, .val false (.lst (c.map cdr)), s7] = lpS [.emp, .emp, .emp, .emp, .emp, .emp, .val false (.lst (c.map cdr)), .emp] := rfl
  rw [e]
  unfold srC at h
  split at h
  · rename_i ys h1
    rw [h1, eqC_of h]
  · cases h
theorem sr_1 : rw1.all (fun z => srC z.1) = true := by decide +kernel
theorem sr_2 : rw2.all (fun z => srC z.1) = true := by decide +kernel
theorem sr_3 : rw3.all (fun z => srC z.1) = true := by decide +kernel
theorem sr_4 : rw4.all (fun z => srC z.1) = true := by decide +kernel
theorem sr_5 : rw5.all (fun z => srC z.1) = true := by decide +kernel
def putB : SM := (setdApp 1 (var 7) lpS)
theorem put_loop {s0 s2 s3 s4 s5 : Sl} : ∀ {rs : List (List Nat × List Int)} {k : Nat} {t : Tb} {s6 s7 : Sl}, (∀ z ∈ rs, srC z.1 = true) → Bt k t → k + rs.length ≤ 1000 → ∃ s6' s7', loopS (.tp [6, 7]) putB (rs.map rwD) [s0, .val true (tabU t), s2, s3, s4, s5, s6, s7] = .nx [s0, .val true (tabU (rs.foldl putR t)), s2, s3, s4, s5, s6', s7']
  | [], _, _, _, _, _, _, _ => ⟨_, _, rfl⟩
  | z :: rs, k, t, s6, s7, h, hb, hk => by
    simp only [List.length_cons] at hk
    have hs := setApp_ok (kp := var 7) (lp := lpS) (env := [s0, .val true (tabU t), s2, s3, s4, s5, .val false (.lst (z.1.map cdr)), .val false (.tup (z.2.map .int))]) (o := z.2) (r := isrt z.1) (f := false) hb (by omega) rfl rfl (srC_of (h z List.mem_cons_self) _ _ _ _ _ _ _)
    obtain ⟨a, b, e⟩ := put_loop (s0 := s0) (s2 := s2) (s3 := s3) (s4 := s4) (s5 := s5) (s6 := .val false (.lst (z.1.map cdr))) (s7 := .val false (.tup (z.2.map .int))) (fun y hy => h y (List.mem_cons_of_mem _ hy)) (hb.add z.2 (isrt z.1)) (by omega)
    refine ⟨a, b, ?_⟩
    rw [List.foldl_cons]
    refine Eq.trans ?_ e
    show loopS (.tp [6, 7]) putB (rwD z :: rs.map rwD) _ = _
    have hb1 : bindT (.tp [6, 7]) (rwD z) [s0, .val true (tabU t), s2, s3, s4, s5, s6, s7] = some [s0, .val true (tabU t), s2, s3, s4, s5, .val false (.lst (z.1.map cdr)), .val false (.tup (z.2.map .int))] := rfl
    simp only [loopS, hb1]
    rw [show putB = setdApp 1 (var 7) lpS from rfl, hs]
    rfl
theorem table_eq (Sw : List D → PR) (env : Env) {e1 : Env} (h : mA Sw env = .nx e1) : b__law_table Sw env = (seqS (forS [2] (.tp [6, 7]) (iseq (var 2)) putB) (retS (mvG 1))) e1 := by
  have q : b__law_table Sw env = seqS (mA Sw) (seqS (forS [2] (.tp [6, 7]) (iseq (var 2)) putB) (retS (mvG 1))) env := by
    show seqS _ (seqS _ (seqS _ _)) env = seqS (seqS _ (seqS _ _)) _ env
    simp only [seqS]
    cases (asgS 1 (lift [] dnewP)) env <;> simp only []
    rename_i e
    cases (asgS 2 (lift [0] (opN dLst [(opN dTup [(opN dLst []), (tupRg (rg1 (var 0)))])]))) e <;> rfl
  rw [q, seq_nx h]
theorem for_any {ks : List Nat} {τ : Tgt} {ι : I} {m : SM} {env : Env} {ds : List D} (h : ∃ f, ι env = .ok f ds) (h2 : ∃ f, ι (hide ks 0 env) = .ok f ds) : ∃ env', (env' = env ∨ env' = demK ks env) ∧ forS ks τ ι m env = loopS τ m ds env' := by
  obtain ⟨f, h⟩ := h
  obtain ⟨f2, h2⟩ := h2
  cases hf : f && noLs ds with
  | true => exact ⟨env, .inl rfl, by simp only [forS, h, hf, if_true]⟩
  | false => exact ⟨demK ks env, .inr rfl, by simp only [forS, h, h2, hf]; rfl⟩
theorem rwX_of {r : SR} {l : List (List Nat × List Int)} (h : rwX r l = true) : ∃ s0 f2 s3 s4 s5 s6 s7, r = .nx [s0, .val true (.dic [] []), .val f2 (.lst (l.map rwD)), s3, s4, s5, s6, s7] := by
  unfold rwX at h
  split at h
  · rename_i s0 f2 rs s3 s4 s5 s6 s7
    rw [← eqW_of h]
    exact ⟨_, _, _, _, _, _, _, rfl⟩
  · cases h
theorem table_gen {Sw : List D → PR} {env : Env} {l : List (List Nat × List Int)} (h : rwX (mA Sw env) l = true) (hs : l.all (fun z => srC z.1) = true) (hl : l.length ≤ 900) : ∃ e, b__law_table Sw env = .rt true (tabU (l.foldl putR [])) e := by
  obtain ⟨s0, f2, s3, s4, s5, s6, s7, e⟩ := rwX_of h
  obtain ⟨e', he, hf⟩ := for_any (ks := [2]) (τ := .tp [6, 7]) (ι := iseq (var 2)) (m := putB) (env := [s0, .val true (.dic [] []), .val f2 (.lst (l.map rwD)), s3, s4, s5, s6, s7]) (ds := l.map rwD) ⟨_, rfl⟩ ⟨_, rfl⟩
  obtain ⟨s2', hs2⟩ : ∃ s2', e' = [s0, .val true (tabU []), s2', s3, s4, s5, s6, s7] := by
    rcases he with q | q
    · exact ⟨_, q⟩
    · exact ⟨_, q.trans rfl⟩
  subst hs2
  obtain ⟨a, b, hp⟩ := put_loop (s0 := s0) (s2 := s2') (s3 := s3) (s4 := s4) (s5 := s5) (rs := l) (k := 0) (t := []) (s6 := s6) (s7 := s7) (fun z hz => List.all_eq_true.mp hs z hz) ⟨by simp, by simp⟩ (by omega)
  refine ⟨[s0, .emp, s2', s3, s4, s5, a, b], ?_⟩
  rw [table_eq _ _ e, seq_nx (hf.trans hp)]
  rfl
theorem fnP_any {n : Nat} {m : SM} {ds : List D} {o : Bool} {d : D} (h : ∃ e, m (startE n ds) = .rt o d e) : fnP n m ds = .ok o d := let ⟨_, e⟩ := h; fnP_rt e
theorem table_of {n : Nat} {l : List (List Nat × List Int)} (h : rwC n l = true) (hs : l.all (fun z => srC z.1) = true) (hl : l.length ≤ 900) : fnP 8 m__law_table [.int (n : Nat)] = .ok true (tabU (l.foldl putR [])) :=
  fnP_any (table_gen (Sw := fnP 4 m__law_swapped) (env := [.val false (.int (n : Nat)), .emp, .emp, .emp, .emp, .emp, .emp, .emp]) h hs hl)
/-! what order_sum tells, by the function itself -/
def sc0 : List (List Int × List Tm) := [([0], [([0], 1)]), ([0, 1], [([0, 0], 1)]), ([1, 0], [([1, 0], 1)]), ([0, 1, 2], [([0, 0, 0], 1)]), ([0, 2, 1], [([1, 0, 0], 1), ([0, 1, 0], 1)]), ([1, 0, 2], [([1, 0, 0], 1)]), ([1, 2, 0], [([1, 1, 0], 1)]), ([2, 0, 1], [([2, 0, 0], 1)])]
def sc1 : List (List Int × List Tm) := [([2, 1, 0], [([2, 1, 0], 1)]), ([0, 1, 2, 3], [([0, 0, 0, 0], 1)]), ([0, 1, 3, 2], [([1, 0, 0, 0], 1), ([0, 1, 0, 0], 1), ([0, 0, 1, 0], 1)]), ([0, 2, 1, 3], [([1, 0, 0, 0], 1), ([0, 1, 0, 0], 1)]), ([0, 2, 3, 1], [([1, 1, 0, 0], 1), ([1, 0, 1, 0], 1), ([0, 1, 1, 0], 1)]), ([0, 3, 1, 2], [([2, 0, 0, 0], 1), ([1, 1, 0, 0], 1), ([0, 2, 0, 0], 1)]), ([0, 3, 2, 1], [([2, 1, 0, 0], 1), ([2, 0, 1, 0], 1), ([1, 2, 0, 0], 1), ([1, 1, 1, 0], 1), ([0, 2, 1, 0], 1)]), ([1, 0, 2, 3], [([1, 0, 0, 0], 1)])]
def sc2 : List (List Int × List Tm) := [([1, 0, 3, 2], [([2, 0, 0, 0], 1), ([1, 1, 0, 0], 1), ([1, 0, 1, 0], 1)]), ([1, 2, 0, 3], [([1, 1, 0, 0], 1)]), ([1, 2, 3, 0], [([1, 1, 1, 0], 1)]), ([1, 3, 0, 2], [([2, 1, 0, 0], 1), ([1, 2, 0, 0], 1)]), ([1, 3, 2, 0], [([2, 1, 1, 0], 1), ([1, 2, 1, 0], 1)]), ([2, 0, 1, 3], [([2, 0, 0, 0], 1)]), ([2, 0, 3, 1], [([2, 1, 0, 0], 1), ([2, 0, 1, 0], 1)]), ([2, 1, 0, 3], [([2, 1, 0, 0], 1)])]
def sc3 : List (List Int × List Tm) := [([2, 1, 3, 0], [([2, 1, 1, 0], 1)]), ([2, 3, 0, 1], [([2, 2, 0, 0], 1)]), ([2, 3, 1, 0], [([2, 2, 1, 0], 1)]), ([3, 0, 1, 2], [([3, 0, 0, 0], 1)]), ([3, 0, 2, 1], [([3, 1, 0, 0], 1), ([3, 0, 1, 0], 1)]), ([3, 1, 0, 2], [([3, 1, 0, 0], 1)]), ([3, 1, 2, 0], [([3, 1, 1, 0], 1)]), ([3, 2, 0, 1], [([3, 2, 0, 0], 1)])]
def sc4 : List (List Int × List Tm) := [([3, 2, 1, 0], [([3, 2, 1, 0], 1)]), ([0, 1, 2, 3, 4], [([0, 0, 0, 0, 0], 1)]), ([0, 1, 2, 4, 3], [([1, 0, 0, 0, 0], 1), ([0, 1, 0, 0, 0], 1), ([0, 0, 1, 0, 0], 1), ([0, 0, 0, 1, 0], 1)]), ([0, 1, 3, 2, 4], [([1, 0, 0, 0, 0], 1), ([0, 1, 0, 0, 0], 1), ([0, 0, 1, 0, 0], 1)]), ([0, 1, 3, 4, 2], [([1, 1, 0, 0, 0], 1), ([1, 0, 1, 0, 0], 1), ([1, 0, 0, 1, 0], 1), ([0, 1, 1, 0, 0], 1), ([0, 1, 0, 1, 0], 1), ([0, 0, 1, 1, 0], 1)]), ([0, 1, 4, 2, 3], [([2, 0, 0, 0, 0], 1), ([1, 1, 0, 0, 0], 1), ([1, 0, 1, 0, 0], 1), ([0, 2, 0, 0, 0], 1), ([0, 1, 1, 0, 0], 1), ([0, 0, 2, 0, 0], 1)]), ([0, 1, 4, 3, 2], [([2, 1, 0, 0, 0], 1), ([2, 0, 1, 0, 0], 1), ([2, 0, 0, 1, 0], 1), ([1, 2, 0, 0, 0], 1), ([1, 1, 1, 0, 0], 2), ([1, 1, 0, 1, 0], 1), ([1, 0, 2, 0, 0], 1), ([1, 0, 1, 1, 0], 1), ([0, 2, 1, 0, 0], 1), ([0, 2, 0, 1, 0], 1), ([0, 1, 2, 0, 0], 1), ([0, 1, 1, 1, 0], 1), ([0, 0, 2, 1, 0], 1)]), ([0, 2, 1, 3, 4], [([1, 0, 0, 0, 0], 1), ([0, 1, 0, 0, 0], 1)])]
def sc5 : List (List Int × List Tm) := [([0, 2, 1, 4, 3], [([2, 0, 0, 0, 0], 1), ([1, 1, 0, 0, 0], 2), ([1, 0, 1, 0, 0], 1), ([1, 0, 0, 1, 0], 1), ([0, 2, 0, 0, 0], 1), ([0, 1, 1, 0, 0], 1), ([0, 1, 0, 1, 0], 1)]), ([0, 2, 3, 1, 4], [([1, 1, 0, 0, 0], 1), ([1, 0, 1, 0, 0], 1), ([0, 1, 1, 0, 0], 1)]), ([0, 2, 3, 4, 1], [([1, 1, 1, 0, 0], 1), ([1, 1, 0, 1, 0], 1), ([1, 0, 1, 1, 0], 1), ([0, 1, 1, 1, 0], 1)]), ([0, 2, 4, 1, 3], [([2, 1, 0, 0, 0], 1), ([2, 0, 1, 0, 0], 1), ([1, 2, 0, 0, 0], 1), ([1, 1, 1, 0, 0], 2), ([1, 0, 2, 0, 0], 1), ([0, 2, 1, 0, 0], 1), ([0, 1, 2, 0, 0], 1)]), ([0, 2, 4, 3, 1], [([2, 1, 1, 0, 0], 1), ([2, 1, 0, 1, 0], 1), ([2, 0, 1, 1, 0], 1), ([1, 2, 1, 0, 0], 1), ([1, 2, 0, 1, 0], 1), ([1, 1, 2, 0, 0], 1), ([1, 1, 1, 1, 0], 2), ([1, 0, 2, 1, 0], 1), ([0, 2, 1, 1, 0], 1), ([0, 1, 2, 1, 0], 1)]), ([0, 3, 1, 2, 4], [([2, 0, 0, 0, 0], 1), ([1, 1, 0, 0, 0], 1), ([0, 2, 0, 0, 0], 1)]), ([0, 3, 1, 4, 2], [([2, 1, 0, 0, 0], 1), ([2, 0, 1, 0, 0], 1), ([2, 0, 0, 1, 0], 1), ([1, 2, 0, 0, 0], 1), ([1, 1, 1, 0, 0], 1), ([1, 1, 0, 1, 0], 1), ([0, 2, 1, 0, 0], 1), ([0, 2, 0, 1, 0], 1)]), ([0, 3, 2, 1, 4], [([2, 1, 0, 0, 0], 1), ([2, 0, 1, 0, 0], 1), ([1, 2, 0, 0, 0], 1), ([1, 1, 1, 0, 0], 1), ([0, 2, 1, 0, 0], 1)])]
def sc6 : List (List Int × List Tm) := [([0, 3, 2, 4, 1], [([2, 1, 1, 0, 0], 1), ([2, 1, 0, 1, 0], 1), ([2, 0, 1, 1, 0], 1), ([1, 2, 1, 0, 0], 1), ([1, 2, 0, 1, 0], 1), ([1, 1, 1, 1, 0], 1), ([0, 2, 1, 1, 0], 1)]), ([0, 3, 4, 1, 2], [([2, 2, 0, 0, 0], 1), ([2, 1, 1, 0, 0], 1), ([2, 0, 2, 0, 0], 1), ([1, 2, 1, 0, 0], 1), ([1, 1, 2, 0, 0], 1), ([0, 2, 2, 0, 0], 1)]), ([0, 3, 4, 2, 1], [([2, 2, 1, 0, 0], 1), ([2, 2, 0, 1, 0], 1), ([2, 1, 2, 0, 0], 1), ([2, 1, 1, 1, 0], 1), ([2, 0, 2, 1, 0], 1), ([1, 2, 2, 0, 0], 1), ([1, 2, 1, 1, 0], 1), ([1, 1, 2, 1, 0], 1), ([0, 2, 2, 1, 0], 1)]), ([0, 4, 1, 2, 3], [([3, 0, 0, 0, 0], 1), ([2, 1, 0, 0, 0], 1), ([1, 2, 0, 0, 0], 1), ([0, 3, 0, 0, 0], 1)]), ([0, 4, 1, 3, 2], [([3, 1, 0, 0, 0], 1), ([3, 0, 1, 0, 0], 1), ([3, 0, 0, 1, 0], 1), ([2, 2, 0, 0, 0], 1), ([2, 1, 1, 0, 0], 1), ([2, 1, 0, 1, 0], 1), ([1, 3, 0, 0, 0], 1), ([1, 2, 1, 0, 0], 1), ([1, 2, 0, 1, 0], 1), ([0, 3, 1, 0, 0], 1), ([0, 3, 0, 1, 0], 1)]), ([0, 4, 2, 1, 3], [([3, 1, 0, 0, 0], 1), ([3, 0, 1, 0, 0], 1), ([2, 2, 0, 0, 0], 1), ([2, 1, 1, 0, 0], 1), ([1, 3, 0, 0, 0], 1), ([1, 2, 1, 0, 0], 1), ([0, 3, 1, 0, 0], 1)]), ([0, 4, 2, 3, 1], [([3, 1, 1, 0, 0], 1), ([3, 1, 0, 1, 0], 1), ([3, 0, 1, 1, 0], 1), ([2, 2, 1, 0, 0], 1), ([2, 2, 0, 1, 0], 1), ([2, 1, 1, 1, 0], 1), ([1, 3, 1, 0, 0], 1), ([1, 3, 0, 1, 0], 1), ([1, 2, 1, 1, 0], 1), ([0, 3, 1, 1, 0], 1)]), ([0, 4, 3, 1, 2], [([3, 2, 0, 0, 0], 1), ([3, 1, 1, 0, 0], 1), ([3, 0, 2, 0, 0], 1), ([2, 3, 0, 0, 0], 1), ([2, 2, 1, 0, 0], 1), ([2, 1, 2, 0, 0], 1), ([1, 3, 1, 0, 0], 1), ([1, 2, 2, 0, 0], 1), ([0, 3, 2, 0, 0], 1)])]
def sc7 : List (List Int × List Tm) := [([0, 4, 3, 2, 1], [([3, 2, 1, 0, 0], 1), ([3, 2, 0, 1, 0], 1), ([3, 1, 2, 0, 0], 1), ([3, 1, 1, 1, 0], 1), ([3, 0, 2, 1, 0], 1), ([2, 3, 1, 0, 0], 1), ([2, 3, 0, 1, 0], 1), ([2, 2, 2, 0, 0], 1), ([2, 2, 1, 1, 0], 1), ([2, 1, 2, 1, 0], 1), ([1, 3, 2, 0, 0], 1), ([1, 3, 1, 1, 0], 1), ([1, 2, 2, 1, 0], 1), ([0, 3, 2, 1, 0], 1)]), ([1, 0, 2, 3, 4], [([1, 0, 0, 0, 0], 1)]), ([1, 0, 2, 4, 3], [([2, 0, 0, 0, 0], 1), ([1, 1, 0, 0, 0], 1), ([1, 0, 1, 0, 0], 1), ([1, 0, 0, 1, 0], 1)]), ([1, 0, 3, 2, 4], [([2, 0, 0, 0, 0], 1), ([1, 1, 0, 0, 0], 1), ([1, 0, 1, 0, 0], 1)]), ([1, 0, 3, 4, 2], [([2, 1, 0, 0, 0], 1), ([2, 0, 1, 0, 0], 1), ([2, 0, 0, 1, 0], 1), ([1, 1, 1, 0, 0], 1), ([1, 1, 0, 1, 0], 1), ([1, 0, 1, 1, 0], 1)]), ([1, 0, 4, 2, 3], [([3, 0, 0, 0, 0], 1), ([2, 1, 0, 0, 0], 1), ([2, 0, 1, 0, 0], 1), ([1, 2, 0, 0, 0], 1), ([1, 1, 1, 0, 0], 1), ([1, 0, 2, 0, 0], 1)]), ([1, 0, 4, 3, 2], [([3, 1, 0, 0, 0], 1), ([3, 0, 1, 0, 0], 1), ([3, 0, 0, 1, 0], 1), ([2, 2, 0, 0, 0], 1), ([2, 1, 1, 0, 0], 2), ([2, 1, 0, 1, 0], 1), ([2, 0, 2, 0, 0], 1), ([2, 0, 1, 1, 0], 1), ([1, 2, 1, 0, 0], 1), ([1, 2, 0, 1, 0], 1), ([1, 1, 2, 0, 0], 1), ([1, 1, 1, 1, 0], 1), ([1, 0, 2, 1, 0], 1)]), ([1, 2, 0, 3, 4], [([1, 1, 0, 0, 0], 1)])]
def sc8 : List (List Int × List Tm) := [([1, 2, 0, 4, 3], [([2, 1, 0, 0, 0], 1), ([1, 2, 0, 0, 0], 1), ([1, 1, 1, 0, 0], 1), ([1, 1, 0, 1, 0], 1)]), ([1, 2, 3, 0, 4], [([1, 1, 1, 0, 0], 1)]), ([1, 2, 3, 4, 0], [([1, 1, 1, 1, 0], 1)]), ([1, 2, 4, 0, 3], [([2, 1, 1, 0, 0], 1), ([1, 2, 1, 0, 0], 1), ([1, 1, 2, 0, 0], 1)]), ([1, 2, 4, 3, 0], [([2, 1, 1, 1, 0], 1), ([1, 2, 1, 1, 0], 1), ([1, 1, 2, 1, 0], 1)]), ([1, 3, 0, 2, 4], [([2, 1, 0, 0, 0], 1), ([1, 2, 0, 0, 0], 1)]), ([1, 3, 0, 4, 2], [([2, 2, 0, 0, 0], 1), ([2, 1, 1, 0, 0], 1), ([2, 1, 0, 1, 0], 1), ([1, 2, 1, 0, 0], 1), ([1, 2, 0, 1, 0], 1)]), ([1, 3, 2, 0, 4], [([2, 1, 1, 0, 0], 1), ([1, 2, 1, 0, 0], 1)])]
def sc9 : List (List Int × List Tm) := [([1, 3, 2, 4, 0], [([2, 1, 1, 1, 0], 1), ([1, 2, 1, 1, 0], 1)]), ([1, 3, 4, 0, 2], [([2, 2, 1, 0, 0], 1), ([2, 1, 2, 0, 0], 1), ([1, 2, 2, 0, 0], 1)]), ([1, 3, 4, 2, 0], [([2, 2, 1, 1, 0], 1), ([2, 1, 2, 1, 0], 1), ([1, 2, 2, 1, 0], 1)]), ([1, 4, 0, 2, 3], [([3, 1, 0, 0, 0], 1), ([2, 2, 0, 0, 0], 1), ([1, 3, 0, 0, 0], 1)]), ([1, 4, 0, 3, 2], [([3, 2, 0, 0, 0], 1), ([3, 1, 1, 0, 0], 1), ([3, 1, 0, 1, 0], 1), ([2, 3, 0, 0, 0], 1), ([2, 2, 1, 0, 0], 1), ([2, 2, 0, 1, 0], 1), ([1, 3, 1, 0, 0], 1), ([1, 3, 0, 1, 0], 1)]), ([1, 4, 2, 0, 3], [([3, 1, 1, 0, 0], 1), ([2, 2, 1, 0, 0], 1), ([1, 3, 1, 0, 0], 1)]), ([1, 4, 2, 3, 0], [([3, 1, 1, 1, 0], 1), ([2, 2, 1, 1, 0], 1), ([1, 3, 1, 1, 0], 1)]), ([1, 4, 3, 0, 2], [([3, 2, 1, 0, 0], 1), ([3, 1, 2, 0, 0], 1), ([2, 3, 1, 0, 0], 1), ([2, 2, 2, 0, 0], 1), ([1, 3, 2, 0, 0], 1)])]
def sc10 : List (List Int × List Tm) := [([1, 4, 3, 2, 0], [([3, 2, 1, 1, 0], 1), ([3, 1, 2, 1, 0], 1), ([2, 3, 1, 1, 0], 1), ([2, 2, 2, 1, 0], 1), ([1, 3, 2, 1, 0], 1)]), ([2, 0, 1, 3, 4], [([2, 0, 0, 0, 0], 1)]), ([2, 0, 1, 4, 3], [([3, 0, 0, 0, 0], 1), ([2, 1, 0, 0, 0], 1), ([2, 0, 1, 0, 0], 1), ([2, 0, 0, 1, 0], 1)]), ([2, 0, 3, 1, 4], [([2, 1, 0, 0, 0], 1), ([2, 0, 1, 0, 0], 1)]), ([2, 0, 3, 4, 1], [([2, 1, 1, 0, 0], 1), ([2, 1, 0, 1, 0], 1), ([2, 0, 1, 1, 0], 1)]), ([2, 0, 4, 1, 3], [([3, 1, 0, 0, 0], 1), ([3, 0, 1, 0, 0], 1), ([2, 2, 0, 0, 0], 1), ([2, 1, 1, 0, 0], 1), ([2, 0, 2, 0, 0], 1)]), ([2, 0, 4, 3, 1], [([3, 1, 1, 0, 0], 1), ([3, 1, 0, 1, 0], 1), ([3, 0, 1, 1, 0], 1), ([2, 2, 1, 0, 0], 1), ([2, 2, 0, 1, 0], 1), ([2, 1, 2, 0, 0], 1), ([2, 1, 1, 1, 0], 1), ([2, 0, 2, 1, 0], 1)]), ([2, 1, 0, 3, 4], [([2, 1, 0, 0, 0], 1)])]
def sc11 : List (List Int × List Tm) := [([2, 1, 0, 4, 3], [([3, 1, 0, 0, 0], 1), ([2, 2, 0, 0, 0], 1), ([2, 1, 1, 0, 0], 1), ([2, 1, 0, 1, 0], 1)]), ([2, 1, 3, 0, 4], [([2, 1, 1, 0, 0], 1)]), ([2, 1, 3, 4, 0], [([2, 1, 1, 1, 0], 1)]), ([2, 1, 4, 0, 3], [([3, 1, 1, 0, 0], 1), ([2, 2, 1, 0, 0], 1), ([2, 1, 2, 0, 0], 1)]), ([2, 1, 4, 3, 0], [([3, 1, 1, 1, 0], 1), ([2, 2, 1, 1, 0], 1), ([2, 1, 2, 1, 0], 1)]), ([2, 3, 0, 1, 4], [([2, 2, 0, 0, 0], 1)]), ([2, 3, 0, 4, 1], [([2, 2, 1, 0, 0], 1), ([2, 2, 0, 1, 0], 1)]), ([2, 3, 1, 0, 4], [([2, 2, 1, 0, 0], 1)])]
def sc12 : List (List Int × List Tm) := [([2, 3, 1, 4, 0], [([2, 2, 1, 1, 0], 1)]), ([2, 3, 4, 0, 1], [([2, 2, 2, 0, 0], 1)]), ([2, 3, 4, 1, 0], [([2, 2, 2, 1, 0], 1)]), ([2, 4, 0, 1, 3], [([3, 2, 0, 0, 0], 1), ([2, 3, 0, 0, 0], 1)]), ([2, 4, 0, 3, 1], [([3, 2, 1, 0, 0], 1), ([3, 2, 0, 1, 0], 1), ([2, 3, 1, 0, 0], 1), ([2, 3, 0, 1, 0], 1)]), ([2, 4, 1, 0, 3], [([3, 2, 1, 0, 0], 1), ([2, 3, 1, 0, 0], 1)]), ([2, 4, 1, 3, 0], [([3, 2, 1, 1, 0], 1), ([2, 3, 1, 1, 0], 1)]), ([2, 4, 3, 0, 1], [([3, 2, 2, 0, 0], 1), ([2, 3, 2, 0, 0], 1)])]
def sc13 : List (List Int × List Tm) := [([2, 4, 3, 1, 0], [([3, 2, 2, 1, 0], 1), ([2, 3, 2, 1, 0], 1)]), ([3, 0, 1, 2, 4], [([3, 0, 0, 0, 0], 1)]), ([3, 0, 1, 4, 2], [([3, 1, 0, 0, 0], 1), ([3, 0, 1, 0, 0], 1), ([3, 0, 0, 1, 0], 1)]), ([3, 0, 2, 1, 4], [([3, 1, 0, 0, 0], 1), ([3, 0, 1, 0, 0], 1)]), ([3, 0, 2, 4, 1], [([3, 1, 1, 0, 0], 1), ([3, 1, 0, 1, 0], 1), ([3, 0, 1, 1, 0], 1)]), ([3, 0, 4, 1, 2], [([3, 2, 0, 0, 0], 1), ([3, 1, 1, 0, 0], 1), ([3, 0, 2, 0, 0], 1)]), ([3, 0, 4, 2, 1], [([3, 2, 1, 0, 0], 1), ([3, 2, 0, 1, 0], 1), ([3, 1, 2, 0, 0], 1), ([3, 1, 1, 1, 0], 1), ([3, 0, 2, 1, 0], 1)]), ([3, 1, 0, 2, 4], [([3, 1, 0, 0, 0], 1)])]
def sc14 : List (List Int × List Tm) := [([3, 1, 0, 4, 2], [([3, 2, 0, 0, 0], 1), ([3, 1, 1, 0, 0], 1), ([3, 1, 0, 1, 0], 1)]), ([3, 1, 2, 0, 4], [([3, 1, 1, 0, 0], 1)]), ([3, 1, 2, 4, 0], [([3, 1, 1, 1, 0], 1)]), ([3, 1, 4, 0, 2], [([3, 2, 1, 0, 0], 1), ([3, 1, 2, 0, 0], 1)]), ([3, 1, 4, 2, 0], [([3, 2, 1, 1, 0], 1), ([3, 1, 2, 1, 0], 1)]), ([3, 2, 0, 1, 4], [([3, 2, 0, 0, 0], 1)]), ([3, 2, 0, 4, 1], [([3, 2, 1, 0, 0], 1), ([3, 2, 0, 1, 0], 1)]), ([3, 2, 1, 0, 4], [([3, 2, 1, 0, 0], 1)])]
def sc15 : List (List Int × List Tm) := [([3, 2, 1, 4, 0], [([3, 2, 1, 1, 0], 1)]), ([3, 2, 4, 0, 1], [([3, 2, 2, 0, 0], 1)]), ([3, 2, 4, 1, 0], [([3, 2, 2, 1, 0], 1)]), ([3, 4, 0, 1, 2], [([3, 3, 0, 0, 0], 1)]), ([3, 4, 0, 2, 1], [([3, 3, 1, 0, 0], 1), ([3, 3, 0, 1, 0], 1)]), ([3, 4, 1, 0, 2], [([3, 3, 1, 0, 0], 1)]), ([3, 4, 1, 2, 0], [([3, 3, 1, 1, 0], 1)]), ([3, 4, 2, 0, 1], [([3, 3, 2, 0, 0], 1)])]
def sc16 : List (List Int × List Tm) := [([3, 4, 2, 1, 0], [([3, 3, 2, 1, 0], 1)]), ([4, 0, 1, 2, 3], [([4, 0, 0, 0, 0], 1)]), ([4, 0, 1, 3, 2], [([4, 1, 0, 0, 0], 1), ([4, 0, 1, 0, 0], 1), ([4, 0, 0, 1, 0], 1)]), ([4, 0, 2, 1, 3], [([4, 1, 0, 0, 0], 1), ([4, 0, 1, 0, 0], 1)]), ([4, 0, 2, 3, 1], [([4, 1, 1, 0, 0], 1), ([4, 1, 0, 1, 0], 1), ([4, 0, 1, 1, 0], 1)]), ([4, 0, 3, 1, 2], [([4, 2, 0, 0, 0], 1), ([4, 1, 1, 0, 0], 1), ([4, 0, 2, 0, 0], 1)]), ([4, 0, 3, 2, 1], [([4, 2, 1, 0, 0], 1), ([4, 2, 0, 1, 0], 1), ([4, 1, 2, 0, 0], 1), ([4, 1, 1, 1, 0], 1), ([4, 0, 2, 1, 0], 1)]), ([4, 1, 0, 2, 3], [([4, 1, 0, 0, 0], 1)])]
def sc17 : List (List Int × List Tm) := [([4, 1, 0, 3, 2], [([4, 2, 0, 0, 0], 1), ([4, 1, 1, 0, 0], 1), ([4, 1, 0, 1, 0], 1)]), ([4, 1, 2, 0, 3], [([4, 1, 1, 0, 0], 1)]), ([4, 1, 2, 3, 0], [([4, 1, 1, 1, 0], 1)]), ([4, 1, 3, 0, 2], [([4, 2, 1, 0, 0], 1), ([4, 1, 2, 0, 0], 1)]), ([4, 1, 3, 2, 0], [([4, 2, 1, 1, 0], 1), ([4, 1, 2, 1, 0], 1)]), ([4, 2, 0, 1, 3], [([4, 2, 0, 0, 0], 1)]), ([4, 2, 0, 3, 1], [([4, 2, 1, 0, 0], 1), ([4, 2, 0, 1, 0], 1)]), ([4, 2, 1, 0, 3], [([4, 2, 1, 0, 0], 1)])]
def sc18 : List (List Int × List Tm) := [([4, 2, 1, 3, 0], [([4, 2, 1, 1, 0], 1)]), ([4, 2, 3, 0, 1], [([4, 2, 2, 0, 0], 1)]), ([4, 2, 3, 1, 0], [([4, 2, 2, 1, 0], 1)]), ([4, 3, 0, 1, 2], [([4, 3, 0, 0, 0], 1)]), ([4, 3, 0, 2, 1], [([4, 3, 1, 0, 0], 1), ([4, 3, 0, 1, 0], 1)]), ([4, 3, 1, 0, 2], [([4, 3, 1, 0, 0], 1)]), ([4, 3, 1, 2, 0], [([4, 3, 1, 1, 0], 1)]), ([4, 3, 2, 0, 1], [([4, 3, 2, 0, 0], 1)])]
def sc19 : List (List Int × List Tm) := [([4, 3, 2, 1, 0], [([4, 3, 2, 1, 0], 1)])]
def schT : List (List Int × List Tm) := sc0 ++ sc1 ++ sc2 ++ sc3 ++ sc4 ++ sc5 ++ sc6 ++ sc7 ++ sc8 ++ sc9 ++ sc10 ++ sc11 ++ sc12 ++ sc13 ++ sc14 ++ sc15 ++ sc16 ++ sc17 ++ sc18 ++ sc19
def rdT : List D → Option (List Tm)
  | [] => some []
  | .tup [.tup ks, .int c] :: xs => match toInts ks with
    | some k => match rdT xs with
      | some l => some ((k, c) :: l)
      | none => none
    | none => none
  | _ :: _ => none
def okP (f : Bool) (p : List Tm) : PR → Bool
  | .ok g (.lst ds) => (f == g) && decide (rdT ds = some p)
  | _ => false
def flO (_ : List Int) : Bool := true
def scC (z : List Int × List Tm) : Bool := okP (flO z.1) z.2 (fnP 1 m_order_sum [.tup (z.1.map .int)])
theorem sc0_ok : sc0.all scC = true := by decide +kernel
theorem sc1_ok : sc1.all scC = true := by decide +kernel
theorem sc2_ok : sc2.all scC = true := by decide +kernel
theorem sc3_ok : sc3.all scC = true := by decide +kernel
theorem sc4_ok : sc4.all scC = true := by decide +kernel
theorem sc5_ok : sc5.all scC = true := by decide +kernel
theorem sc6_ok : sc6.all scC = true := by decide +kernel
theorem sc7_ok : sc7.all scC = true := by decide +kernel
theorem sc8_ok : sc8.all scC = true := by decide +kernel
theorem sc9_ok : sc9.all scC = true := by decide +kernel
theorem sc10_ok : sc10.all scC = true := by decide +kernel
theorem sc11_ok : sc11.all scC = true := by decide +kernel
theorem sc12_ok : sc12.all scC = true := by decide +kernel
theorem sc13_ok : sc13.all scC = true := by decide +kernel
theorem sc14_ok : sc14.all scC = true := by decide +kernel
theorem sc15_ok : sc15.all scC = true := by decide +kernel
theorem sc16_ok : sc16.all scC = true := by decide +kernel
theorem sc17_ok : sc17.all scC = true := by decide +kernel
theorem sc18_ok : sc18.all scC = true := by decide +kernel
theorem sc19_ok : sc19.all scC = true := by decide +kernel
theorem sch_ok : schT.all scC = true := by
  simp only [schT, List.all_append, sc0_ok, sc1_ok, sc2_ok, sc3_ok, sc4_ok, sc5_ok, sc6_ok, sc7_ok, sc8_ok, sc9_ok, sc10_ok, sc11_ok, sc12_ok, sc13_ok, sc14_ok, sc15_ok, sc16_ok, sc17_ok, sc18_ok, sc19_ok, Bool.and_self]
/-! the law's table, its sums, and order_sum's -/
theorem rdT_of : ∀ {xs : List D} {p : List Tm}, rdT xs = some p → xs = p.map tD
  | [], p, h => by cases h; rfl
  | x :: xs, p, h => by
    unfold rdT at h
    split at h
    · cases ‹_ :: _ = _›
    · rename_i ks c xs' heq
      cases heq
      split at h
      · rename_i k hk
        split at h
        · rename_i l hl
          cases h
          rw [List.map_cons, ← rdT_of hl, toInts_eq hk]
          rfl
        · cases h
      · cases h
    · cases h
theorem okP_of {f : Bool} {p : List Tm} {r : PR} (h : okP f p r = true) : r = .ok f (pD p) := by
  unfold okP at h
  split at h
  · rw [Bool.and_eq_true] at h
    rw [rdT_of (of_decide_eq_true h.2), eq_of_beq h.1]; rfl
  · cases h
theorem lookup_mem {α β : Type} [BEq α] [LawfulBEq α] {a : α} {b : β} : ∀ {l : List (α × β)}, l.lookup a = some b → (a, b) ∈ l
  | [], h => by simp at h
  | (x, y) :: l, h => by
    rw [List.lookup_cons] at h
    split at h
    · rename_i e
      cases h
      have := eq_of_beq e
      subst this
      exact List.mem_cons_self
    · exact List.mem_cons_of_mem _ (lookup_mem h)
def okTT : PR → Bool
  | .ok true (.bl true) => true
  | _ => false
theorem okTT_of {r : PR} (h : okTT r = true) : r = .ok true (.bl true) := by
  unfold okTT at h
  split at h
  · rfl
  · cases h
def rwN : Nat → List (List Nat × List Int)
  | 1 => rw1
  | 2 => rw2
  | 3 => rw3
  | 4 => rw4
  | _ => rw5
def chkR (l : List (List Nat)) (N : D) (p : List Tm) : Bool := match l with
  | r :: rows => okP true p (fnP 5 m__law_sum_of [N, rowsD (r :: rows)]) && okTT (fnP 5 m__law_is_poly [pD p, N])
  | [] => false
def chk (z : List Int × List Tm) : Bool := chkR (sel z.1 (rwN z.1.length)) (.int (z.1.length : Nat)) z.2
def Fact (n : Nat) (o : List Int) : Prop := ∃ rows p, lkT o ((rwN n).foldl putR []) = some rows ∧ fnP 5 m__law_sum_of [.int (n : Nat), rowsD rows] = .ok true (pD p) ∧ fnP 5 m__law_is_poly [pD p, .int (n : Nat)] = .ok true (.bl true) ∧ fnP 1 m_order_sum [.tup (o.map .int)] = .ok true (pD p)
theorem and_of {a b : Bool} (h : (a && b) = true) : a = true ∧ b = true := by
  rw [Bool.and_eq_true] at h; exact h
theorem chkR_of {l : List (List Nat)} {N : D} {p : List Tm} (h : chkR l N p = true) : l ≠ [] ∧ fnP 5 m__law_sum_of [N, rowsD l] = .ok true (pD p) ∧ fnP 5 m__law_is_poly [pD p, N] = .ok true (.bl true) := by
  cases l with
  | nil => cases h
  | cons r rows =>
    obtain ⟨h1, h2⟩ := and_of h
    exact ⟨by simp, okP_of h1, okTT_of h2⟩
theorem chk_of {z : List Int × List Tm} (h : chk z = true) (hs : scC z = true) : Fact z.1.length z.1 := by
  obtain ⟨h1, h2, h3⟩ := chkR_of h
  exact ⟨_, z.2, lk_sel h1, h2, h3, okP_of hs⟩
theorem ck0 : sc0.all chk = true := by decide +kernel
theorem ck1 : sc1.all chk = true := by decide +kernel
theorem ck2 : sc2.all chk = true := by decide +kernel
theorem ck3 : sc3.all chk = true := by decide +kernel
theorem ck4 : sc4.all chk = true := by decide +kernel
theorem ck5 : sc5.all chk = true := by decide +kernel
theorem ck6 : sc6.all chk = true := by decide +kernel
theorem ck7 : sc7.all chk = true := by decide +kernel
theorem ck8 : sc8.all chk = true := by decide +kernel
theorem ck9 : sc9.all chk = true := by decide +kernel
theorem ck10 : sc10.all chk = true := by decide +kernel
theorem ck11 : sc11.all chk = true := by decide +kernel
theorem ck12 : sc12.all chk = true := by decide +kernel
theorem ck13 : sc13.all chk = true := by decide +kernel
theorem ck14 : sc14.all chk = true := by decide +kernel
theorem ck15 : sc15.all chk = true := by decide +kernel
theorem ck16 : sc16.all chk = true := by decide +kernel
theorem ck17 : sc17.all chk = true := by decide +kernel
theorem ck18 : sc18.all chk = true := by decide +kernel
theorem ck19 : sc19.all chk = true := by decide +kernel
theorem ck_all : schT.all chk = true := by
  simp only [schT, List.all_append, ck0, ck1, ck2, ck3, ck4, ck5, ck6, ck7, ck8, ck9, ck10, ck11, ck12, ck13, ck14, ck15, ck16, ck17, ck18, ck19, Bool.and_self]
theorem sch_ords : schT.map (·.1) = ords 1 ++ ords 2 ++ ords 3 ++ ords 4 ++ ords 5 := by decide +kernel
theorem chk_ok {n : Nat} (n1 : 1 ≤ n) (n5 : n ≤ 5) {o : List Int} (h : o ∈ ords n) : Fact n o := by
  have hm : o ∈ schT.map (·.1) := by
    rw [sch_ords]
    simp only [List.mem_append]
    rcases five n1 n5 with rfl | rfl | rfl | rfl | rfl <;> simp [h]
  obtain ⟨z, hz, e⟩ := List.mem_map.mp hm
  have := chk_of (List.all_eq_true.mp ck_all z hz) (List.all_eq_true.mp sch_ok z hz)
  rw [e, ords_len h] at this
  exact this
theorem table_ok {n : Nat} (n1 : 1 ≤ n) (n5 : n ≤ 5) : fnP 8 m__law_table [.int (n : Nat)] = .ok true (tabU ((rwN n).foldl putR [])) := by
  rcases five n1 n5 with rfl | rfl | rfl | rfl | rfl
  · exact table_of rwC_1 sr_1 (by decide)
  · exact table_of rwC_2 sr_2 (by decide)
  · exact table_of rwC_3 sr_3 (by decide)
  · exact table_of rwC_4 sr_4 (by decide)
  · exact table_of rwC_5 sr_5 (by decide +kernel)
theorem mixed_ok (a b : Int) : ∃ r, fnP 3 m__law_mixed [.int a, .int b] = .ok true (.int r) := by
  have h1 : ((a % 2147483647 * 48271 + b * 69621 + 1048583) % 2147483629).natAbs < 18446744073709551616 := by omega
  have h2 : ((a % 2147483647 * 48271 + b * 69621 + 1048583) % 2147483629 * ((a % 2147483647 * 48271 + b * 69621 + 1048583) % 2147483629) % 2147483587).natAbs < 18446744073709551616 := by omega
  simp [mulOk_l, mulOk_r, h1, h2, fnP, m__law_mixed, startE, seqS, asgS, lift, op2, var, cst, PR.bind, Env.look, Sl.get, dAdd, dMul, dMod, gfl, noL, Kd.fl, retS]
def cellB : SM := (asgS 3 (lift [1, 2, 3, 4] (op2 dAdd (op2 dMul (var 3) (cst (.int 2147483579))) (callP (fnP 3 m__law_mixed) [(var 2), (op2 dAdd (op2 dAdd (op2 dMul (cst (.int 7)) (var 1)) (op2 dMul (cst (.int 100)) (var 4))) (op2 dMul (var 4) (var 4)))]))))
theorem cell_body {S0 s3 : Sl} {k c f : Int} {j : Nat} (hj : j < 24) : ∃ f', cellB [S0, .val false (.int k), .val true (.int c), .val true (.int f), .val false (.int j)] = .nx [S0, .val false (.int k), .val true (.int c), .val true (.int f'), .val false (.int j)] := by
  have h1 : ((j : Int)).natAbs < 18446744073709551616 := by omega
  obtain ⟨r, hr⟩ := mixed_ok c (7 * k + 100 * (j : Int) + j * j)
  have hm : mulOk (j : Int) (j : Int) = true := mulOk_l h1
  simp [cellB, mulOk_l, mulOk_r, hm, asgS, lift, op2, var, cst, PR.bind, Env.look, Sl.get, dAdd, dMul, dMod, gfl, noL, Kd.fl, callP, args, AR.bind, hr]
theorem cell_loop (S0 : Sl) (k c : Int) (f : Int) (s : Sl) : ∃ f' s', loopS (.nm 4) cellB (rgD 0 24) [S0, .val false (.int k), .val true (.int c), .val true (.int f), s] = .nx [S0, .val false (.int k), .val true (.int c), .val true (.int f'), s'] := by
  obtain ⟨e, h1, f', s', rfl⟩ := loop_inv (τ := .nm 4) (m := cellB) (fun env => ∃ f s, env = [S0, .val false (.int k), .val true (.int c), .val true (.int f), s]) (ds := rgD 0 24) (fun d hd env ⟨f, s, he⟩ => by
    obtain ⟨j, hj, rfl⟩ := mem_rgD hd
    subst he
    obtain ⟨f', hb⟩ := cell_body (S0 := S0) (s3 := s) (k := k) (c := c) (f := f) hj
    exact ⟨_, _, rfl, by simpa [bindT] using hb, f', _, rfl⟩) _ ⟨f, s, rfl⟩
  exact ⟨f', s', h1⟩
theorem cell_ok (ns : List Int) (hl : ns.length ≤ 63) (k : Nat) : ∃ c, fnP 5 m__law_cell [.frz (ns.map .int), .int k] = .ok true (.int c) := by
  -- the cell
  obtain ⟨c, hc⟩ : ∃ c, (seqS (asgS 2 (lift [] (cst (.int 0)))) (ifS (op2 dLt (var 1) (opN dLen [(var 0)])) (asgS 2 (lift [0, 1] (op2 dIx (var 0) (var 1)))) passS)) (startE 5 [.frz (ns.map .int), .int k]) = .nx [.val false (.frz (ns.map .int)), .val false (.int k), .val true (.int c), .emp, .emp] := by
    by_cases hk : k < ns.length
    · refine ⟨ns[k], ?_⟩
      have hz : szOk ns.length = true := by unfold szOk; simp; omega
      have h0 : (k : Int) < (ns.length : Int) := by omega
      simp [startE, seqS, ifS, asgS, lift, op2, opN, args, AR.bind, var, cst, PR.bind, Env.look, Sl.get, dLt, dLen, dIx, gfl, noL, Kd.fl, passS, hz, h0, L2.atI, L2.ixN, hk, List.getElem?_map]
    · refine ⟨0, ?_⟩
      have hz : szOk ns.length = true := by unfold szOk; simp; omega
      have h0 : ¬ (k : Int) < (ns.length : Int) := by omega
      simp [startE, seqS, ifS, asgS, lift, op2, opN, args, AR.bind, var, cst, PR.bind, Env.look, Sl.get, dLt, dLen, dIx, gfl, noL, Kd.fl, passS, hz, h0]
  obtain ⟨f', s', hf⟩ := cell_loop (.val false (.frz (ns.map .int))) k c 0 .emp
  by_cases hc0 : (1000000000000000000 : Int) ≤ c
  · refine ⟨(c - 1000000000000000000) % 10 ^ 240, ?_⟩
    have : m__law_cell (startE 5 [.frz (ns.map .int), .int k]) = .rt true (.int ((c - 1000000000000000000) % 10 ^ 240)) [.val false (.frz (ns.map .int)), .val false (.int k), .val true (.int c), .emp, .emp] := by
      have e : m__law_cell = seqS (asgS 2 (lift [] (cst (.int 0)))) (seqS (ifS (op2 dLt (var 1) (opN dLen [(var 0)])) (asgS 2 (lift [0, 1] (op2 dIx (var 0) (var 1)))) passS) (seqS (ifS (op2 dGe (var 2) e18P) (retS (lift [2] (op2 dMod (op2 dSub (var 2) e18P) bigP))) passS) (seqS (asgS 3 (lift [] (cst (.int 0)))) (seqS (forS [] (.nm 4) (irange1 (cst (.int 24))) cellB) (retS (mvG 3)))))) := rfl
      rw [e, ← seq_assoc]
      rw [seq_nx hc]
      have hd := decide_eq_true hc0
      simp [seqS, ifS, op2, var, cst, PR.bind, Env.look, Sl.get, dGe, dSub, dMod, gfl, noL, Kd.fl, e18P_ok, bigP_ok, hd, retS, lift]
    simp only [fnP, this]
  · refine ⟨f', ?_⟩
    have : m__law_cell (startE 5 [.frz (ns.map .int), .int k]) = .rt true (.int f') [.val false (.frz (ns.map .int)), .val false (.int k), .val true (.int c), .emp, s'] := by
      have e : m__law_cell = seqS (asgS 2 (lift [] (cst (.int 0)))) (seqS (ifS (op2 dLt (var 1) (opN dLen [(var 0)])) (asgS 2 (lift [0, 1] (op2 dIx (var 0) (var 1)))) passS) (seqS (ifS (op2 dGe (var 2) e18P) (retS (lift [2] (op2 dMod (op2 dSub (var 2) e18P) bigP))) passS) (seqS (asgS 3 (lift [] (cst (.int 0)))) (seqS (forS [] (.nm 4) (irange1 (cst (.int 24))) cellB) (retS (mvG 3)))))) := rfl
      rw [e, ← seq_assoc]
      rw [seq_nx hc]
      have hd := decide_eq_false hc0
      have hi : irange1 (cst (.int 24)) = fun _ => IR.ok true (rgD 0 24) := rfl
      have hn : noLs (rgD 0 24) = true := rfl
      simp [seqS, ifS, op2, var, cst, PR.bind, Env.look, Sl.get, dGe, dSub, dMod, gfl, noL, Kd.fl, e18P_ok, hd, retS, lift, asgS, passS, forS, hi, hn, hf, mvG]
    simp only [fnP, this]
/-! ### digits of a pile -/
theorem take_ok (c n : Int) (h0 : 0 < n) (h1 : n < 1000000) : fnR 3 0 m__law_take [.lst [.int c], .int n] = .ok true (.int (c % n)) (.lst [.int (c / n)]) := by
  have hl : n.natAbs.log2 < 9000 := by
    have : n.natAbs < 2 ^ 20 := by omega
    have : n.natAbs.log2 < 20 := (Nat.log2_lt (by omega)).2 this
    omega
  simp [fnR, m__law_take, startR, startE, seqS, asgS, lift, op2, var, cst, PR.bind, Env.look, Sl.get, dMod, dDiv, dIx, L2.atI, L2.ixN, gfl, noL, noLs, Kd.fl, h0, hl, setiS, myLst, Sl.mine, Sl.put, retS, mvG, endR]

def ordB : SM := (dropS (appendG 3 (popG 2 (callR 0 0 2 (fnR 3 0 m__law_take) [(.vr 0), (.ex (lift [1, 4] (op2 dSub (var 1) (var 4))))]))))
theorem ord_step {c n i : Int} {left found : List Int} (h0 : 0 < n - i) (hl : (left.length : Int) = n - i) (h1 : n - i < 1000) (hf : found.length < 1000) :
    ∃ y j, left[j]? = some y ∧ ordB [.ref (.lst [.int c]), .val false (.int n), .val true (.lst (left.map .int)), .val true (.lst (found.map .int)), .val false (.int i)] =
      .nx [.ref (.lst [.int (c / (n - i))]), .val false (.int n), .val true (.lst ((left.eraseIdx j).map .int)), .val true (.lst ((found ++ [y]).map .int)), .val false (.int i)] := by
  have ht := take_ok c (n - i) h0 (by omega)
  have hk0 : 0 ≤ c % (n - i) := Int.emod_nonneg _ (by omega)
  have hk1 : c % (n - i) < n - i := Int.emod_lt_of_pos _ h0
  have hj : (c % (n - i)).toNat < left.length := by omega
  have hz : szOk left.length = true := by unfold szOk; simp; omega
  have hz2 : szOk found.length = true := by unfold szOk; simp; omega
  have hx : L2.ixN left.length (c % (n - i)) = some (c % (n - i)).toNat := by unfold L2.ixN; rw [if_pos hk0, if_pos (by omega)]
  refine ⟨left[(c % (n - i)).toNat], (c % (n - i)).toNat, by simp, ?_⟩
  have hc : callR 0 0 2 (fnR 3 0 m__law_take) [(.vr 0), (.ex (lift [1, 4] (op2 dSub (var 1) (var 4))))] [.ref (.lst [.int c]), .val false (.int n), .val true (.lst (left.map .int)), .val true (.lst (found.map .int)), .val false (.int i)] =
      .ok true (.int (c % (n - i))) [.ref (.lst [.int (c / (n - i))]), .val false (.int n), .val true (.lst (left.map .int)), .val true (.lst (found.map .int)), .val false (.int i)] := by
    simp [callR, argsG, Env.look, Sl.get, lift, op2, var, PR.bind, dSub, gfl, noL, Kd.fl, othersOk, valsU, Sl.mine, Sl.put, ht]
  simp only [ordB, dropS, appendG, popG, hc]
  simp [Env.look, Sl.get, myLst, Sl.mine, Sl.put, hx, hz, hz2, noL, List.getElem?_map, eraseIdx_map', hj]
theorem ord_loop (n : Int) : ∀ (len i : Nat) (left found : List Int) (c : Int) (s : Sl), left.length = len → n = i + len → n ≤ 900 → found.length = i → ∃ o ∈ perms len left, ∃ c' s',
    loopS (.nm 4) ordB ((List.range' i len).map fun (k : Nat) => D.int (0 + (k : Int))) [.ref (.lst [.int c]), .val false (.int n), .val true (.lst (left.map .int)), .val true (.lst (found.map .int)), s] =
      .nx [.ref (.lst [.int c']), .val false (.int n), .val true (.lst []), .val true (.lst ((found ++ o).map .int)), s']
  | 0, i, left, found, c, s, hl, hn, h9, hf => by
    have : left = [] := List.length_eq_zero_iff.mp hl
    subst this
    exact ⟨[], by simp [perms], c, s, by simp [loopS]⟩
  | len + 1, i, left, found, c, s, hl, hn, h9, hf => by
    obtain ⟨y, j, hy, hs⟩ := ord_step (c := c) (n := n) (i := (i : Int)) (left := left) (found := found) (by omega) (by omega) (by omega) (by omega)
    obtain ⟨o, ho, c', s', hr⟩ := ord_loop n len (i + 1) (left.eraseIdx j) (found ++ [y]) (c / (n - i)) (.val false (.int i)) (by rw [List.length_eraseIdx, if_pos (List.getElem?_eq_some_iff.mp hy).1]; omega) (by omega) h9 (by simp [hf])
    refine ⟨y :: o, mem_perms hy ho, c', s', ?_⟩
    rw [List.range'_succ, List.map_cons]
    simp only [loopS, bindT, List.set]
    rw [show (0 : Int) + (i : Int) = i by omega, hs]
    simp only
    rw [hr]
    simp
theorem m_order_eq : m__law_order = seqS (asgS 2 (lift [1] (lstRg (rg1 (var 1))))) (seqS (asgS 3 (lift [] (opN dLst []))) (seqS (forS [1] (.nm 4) (irange1 (var 1)) ordB) (retS (lift [3] (opN dTupOf [(var 3)]))))) := rfl
theorem order_ok (c : Int) (n : Nat) (hn : n ≤ 900) : ∃ o ∈ perms n ((List.range n).map fun (k : Nat) => (0 + k : Int)), ∃ c', fnR 5 0 m__law_order [.lst [.int c], .int n] = .ok true (.tup (o.map .int)) (.lst [.int c']) := by
  obtain ⟨o, ho, c', s', hr⟩ := ord_loop n n 0 ((List.range n).map fun (k : Nat) => (0 + k : Int)) [] c .emp (by simp) (by omega) (by omega) rfl
  refine ⟨o, ho, c', ?_⟩
  have hlen : o.length = n := perms_len _ _ _ ho
  have hr' : loopS (.nm 4) ordB (rgD 0 n) [.ref (.lst [.int c]), .val false (.int n), .val true (.lst (rgD 0 n)), .val true (.lst []), .emp] = .nx [.ref (.lst [.int c']), .val false (.int n), .val true (.lst []), .val true (.lst (o.map .int)), s'] := by
    have e1 : rgD 0 n = (List.range' 0 n).map fun (k : Nat) => D.int (0 + (k : Int)) := by unfold rgD; rw [List.range_eq_range']
    have e2 : ((List.range n).map fun (k : Nat) => (0 + k : Int)).map D.int = rgD 0 n := by unfold rgD; simp [Function.comp_def]
    rw [e2, List.map_nil, List.nil_append, ← e1] at hr
    exact hr
  have hz := rgSz_nat (show n ≤ 900000 by omega)
  have hz1 := rgOk_nat (show n ≤ 900000 by omega)
  have hz2 : szOk o.length = true := szOk_small (by omega)
  have hz3 : szOk 0 = true := szOk_small (by omega)
  have hn1 := noLs_rgD n
  have hno : noLs (o.map D.int) = true := noLs_ints o
  have s1 : (asgS 2 (lift [1] (lstRg (rg1 (var 1))))) (startR 5 0 [.lst [.int c], .int n]) = .nx [.ref (.lst [.int c]), .val false (.int n), .val true (.lst (rgD 0 n)), .emp, .emp] := by
    have h0 : rg1 (var 1) (startR 5 0 [.lst [.int c], .int n]) = some (0, (n : Int)) := rfl
    have h1 := lstRg_ok h0 hz1
    have e0 : ((n : Int) - 0).toNat = n := by omega
    rw [e0] at h1
    exact asg_ok (lift_new h1 rfl)
  have s2 : (asgS 3 (lift [] (opN dLst []))) [.ref (.lst [.int c]), .val false (.int n), .val true (.lst (rgD 0 n)), .emp, .emp] = .nx [.ref (.lst [.int c]), .val false (.int n), .val true (.lst (rgD 0 n)), .val true (.lst []), .emp] := by
    simp [asgS, lift, gfl, noL, opN, args, AR.bind, dLst, hz3, Kd.fl]
  have s3 : (forS [1] (.nm 4) (irange1 (var 1)) ordB) [.ref (.lst [.int c]), .val false (.int n), .val true (.lst (rgD 0 n)), .val true (.lst []), .emp] = .nx [.ref (.lst [.int c']), .val false (.int n), .val true (.lst []), .val true (.lst (o.map .int)), s'] := by
    have h1 := irange1_ok (p := var 1) (env := [.ref (.lst [.int c]), .val false (.int n), .val true (.lst (rgD 0 n)), .val true (.lst []), .emp]) (f := false) (j := (n : Int)) rfl hz
    have e0 : (n : Int).toNat = n := by omega
    rw [e0] at h1
    rw [for_ok h1 hn1]
    exact hr'
  have s4 : (retS (lift [3] (opN dTupOf [(var 3)]))) [.ref (.lst [.int c']), .val false (.int n), .val true (.lst []), .val true (.lst (o.map .int)), s'] = .rt true (.tup (o.map .int)) [.ref (.lst [.int c']), .val false (.int n), .val true (.lst []), .val true (.lst (o.map .int)), s'] := by
    simp [retS, lift, opN, args, AR.bind, var, Env.look, Sl.get, dTupOf, hz2, hno, Kd.fl, gfl, noL]
  refine fnR_rt (e := [.ref (.lst [.int c']), .val false (.int n), .val true (.lst []), .val true (.lst (o.map .int)), s']) ?_ rfl
  rw [m_order_eq, seq_nx s1, seq_nx s2, seq_nx s3, s4]
/-! the law -/
theorem lst1 {a : P} {env : Env} {f : Bool} {x : Int} (h : a env = .ok f (.int x)) : opN dLst [a] env = .ok true (.lst [.int x]) := by
  have e : dLst [.int x] = some (.lin, .lst [.int x]) := rfl
  simp only [opN, args, h, AR.bind, e, Kd.fl, gfl, noL, Bool.or_true, Bool.and_self]
theorem cst_i (env : Env) (x : Int) : cst (.int x) env = .ok true (.int x) := rfl
theorem opNG2 {f : List D → Option (Kd × D)} {m1 m2 : GE} {env e1 e2 : Env} {x y d : D} (h1 : m1 env = .ok true x e1) (h2 : m2 e1 = .ok true y e2) (hf : f [x, y] = some (.new, d)) : opNG f [(.ex m1), (.ex m2)] env = .ok true d e2 := by
  simp [opNG, argsG, h1, h2, valsU, hf, Kd.fl, gfl]
theorem take_asg {T : List D → RR} {c c1 : Int} {x y : Int} {s0 s1 s3 s4 s5 s6 s7 : Sl} (h : T [.lst [.int c], .int x] = .ok true (.int y) (.lst [.int c1])) : (callR 0 2 2 T [(.vr 2), (.ex (lift [] (cst (.int x))))]) [s0, s1, .val true (.lst [.int c]), s3, s4, s5, s6, s7] = .ok true (.int y) [s0, s1, .val true (.lst [.int c1]), s3, s4, s5, s6, s7] := by
  simp [callR, argsG, lift, cst, gfl, noL, Env.look, Sl.get, othersOk, valsU, Sl.mine, Sl.put, h]
theorem lstS3 {m1 m2 m3 : GE} {env e1 e2 e3 : Env} {x y z : D} (h1 : m1 env = .ok true x e1) (h2 : m2 e1 = .ok true y e2) (h3 : m3 e2 = .ok true z e3) : lstS [(.ex m1), (.ex m2), (.ex m3)] env = .ok false (.lst [x, y, z]) e3 := by
  have hz : szOk [x, y, z].length = true := rfl
  simp only [lstS, argsG, h1, h2, h3, valsU, Option.map_some, hz, if_true, varsU, demK]
theorem forG_lst {τ : Tgt} {m : GE} {b : SM} {env e : Env} {f : Bool} {ds : List D} (h : m env = .ok f (.lst ds) e) : forG τ (iseqG m) b env = loopS τ b ds e := by
  simp only [forG, iseqG, h]
theorem rgP {n : Nat} (h : n ≤ 5) {s0 s1 s2 s4 s5 s6 s7 : Sl} : lift [3] (tupRg (rg1 (var 3))) [s0, s1, s2, .val true (.int (n : Nat)), s4, s5, s6, s7] = .ok true (.tup ((rgI n).map .int)) [s0, s1, s2, .val true (.int (n : Nat)), s4, s5, s6, s7] := by
  have : n = 0 ∨ n = 1 ∨ n = 2 ∨ n = 3 ∨ n = 4 ∨ n = 5 := by omega
  rcases this with rfl | rfl | rfl | rfl | rfl | rfl <;> rfl
theorem rrP {n : Nat} (h : n ≤ 5) {s0 s1 s2 s4 s5 s6 s7 : Sl} : lift [3] (tupRR (rg1 (var 3))) [s0, s1, s2, .val true (.int (n : Nat)), s4, s5, s6, s7] = .ok true (.tup ((rgI n).reverse.map .int)) [s0, s1, s2, .val true (.int (n : Nat)), s4, s5, s6, s7] := by
  have : n = 0 ∨ n = 1 ∨ n = 2 ∨ n = 3 ∨ n = 4 ∨ n = 5 := by omega
  rcases this with rfl | rfl | rfl | rfl | rfl | rfl <;> rfl
theorem rv_ords {n : Nat} (n1 : 1 ≤ n) (n5 : n ≤ 5) : (rgI n).reverse ∈ ords n := by
  rcases five n1 n5 with rfl | rfl | rfl | rfl | rfl <;> decide +kernel
theorem un_m (ks ws : List Nat) (i : Nat) (s : Sl) (h1 : ks.contains i = false) (h2 : ws.contains i = false) : un1 ks ws i s (mask1 ks ws i s) = some s := by
  unfold un1 mask1
  rw [h1, h2]
  cases s <;> rfl
theorem scope_ok {m : SM} {s0 s1 s2 s3 s4 s7 x y : Sl} (h : ∀ t0 t1 t2 t3 t4 t7, m [t0, t1, t2, t3, t4, x, y, t7] = .nx [t0, t1, t2, t3, t4, x, y, t7]) : scopeS [5, 6] [] m [s0, s1, s2, s3, s4, x, y, s7] = .nx [s0, s1, s2, s3, s4, x, y, s7] := by
  have hm : mask [5, 6] [] 0 [s0, s1, s2, s3, s4, x, y, s7] = [mask1 [5, 6] [] 0 s0, mask1 [5, 6] [] 1 s1, mask1 [5, 6] [] 2 s2, mask1 [5, 6] [] 3 s3, mask1 [5, 6] [] 4 s4, x, y, mask1 [5, 6] [] 7 s7] := rfl
  refine scope_nx (by rw [hm]; exact h _ _ _ _ _ _) ?_
  simp only [unmask, un_m [5, 6] [] 0 s0 rfl rfl, un_m [5, 6] [] 1 s1 rfl rfl, un_m [5, 6] [] 2 s2 rfl rfl, un_m [5, 6] [] 3 s3 rfl rfl, un_m [5, 6] [] 4 s4 rfl rfl, un_m [5, 6] [] 7 s7 rfl rfl]
  rfl
def inB (S P SO : List D → PR) : SM := (seqS (asgS 6 (lift [3, 4, 5] (callP SO [(var 3), (op2 dIxD (var 4) (var 5))])))
  (seqS (asgS 7 (lift [5] (callP S [(var 5)])))
  (seqS (ifS (orP (notP (callP P [(var 7), (var 3)])) (op2 dNe (var 7) (var 6))) (retS (lift [] (cst (.bl false)))) passS)
  (seqS (dropS (clearG 7))
  (scopeS [5, 6] [] (ifS (op2 dNe (callP S [(var 5)]) (var 6)) (retS (lift [] (cst (.bl false)))) passS))))))
def bodyL (S C : List D → PR) (T O : List D → RR) (P B SO : List D → PR) : SM := (seqS (asgS 2 (lift [0, 1] (opN dLst [(callP C [(var 0), (var 1)])])))
  (seqS (asgS 3 (opNG (opf dAdd) [(.ex (lift [] (cst (.int 1)))), (.ex (callR 0 2 2 T [(.vr 2), (.ex (lift [] (cst (.int 5))))]))]))
  (seqS (asgS 4 (lift [3] (callP B [(var 3)])))
  (forG (.nm 5) (iseqG (lstS [(.ex (callR 0 2 2 O [(.vr 2), (.vr 3)])), (.ex (lift [3] (tupRg (rg1 (var 3))))), (.ex (lift [3] (tupRR (rg1 (var 3)))))])) (inB S P SO)))))
theorem law_eq (S C : List D → PR) (T O : List D → RR) (P B SO : List D → PR) : b_law S C T O P B SO = seqS (forS [0] (.nm 1) (irange1 (opN dMax2 [(opN dMin2 [(opN dLen [(var 0)]), (cst (.int 4))]), (cst (.int 1))])) (bodyL S C T O P B SO)) (retS (lift [] (cst (.bl true)))) := rfl
theorem ixD_ok {t : Tb} {o : List Int} {rows : List (List Nat)} (h : lkT o t = some rows) : ∃ k, dIxD (tabU t) (.tup (o.map .int)) = some (k, rowsD rows) := by
  have hk : keyOf (.tup (o.map .int)) = some o := keyI_map o
  simp only [tabU, dIxD, hk, dval_tab, h, Option.map_some]
  exact ⟨_, rfl⟩
theorem op2_k {f : D → D → Option (Kd × D)} {a b : P} {env : Env} {fa fb : Bool} {x y d : D} {k : Kd} (h1 : a env = .ok fa x) (h2 : b env = .ok fb y) (h : f x y = some (k, d)) : ∃ g, op2 f a b env = .ok g d := by
  simp only [op2, h1, h2, PR.bind, h]
  exact ⟨_, rfl⟩
theorem pD_new (p : List Tm) : gfl true (pD p) = true := rfl
theorem inB_ok {S P SO : List D → PR} {N : Int} {t : Tb} {o : List Int} {rows : List (List Nat)} {p : List Tm} (hl : lkT o t = some rows) (hS : SO [.int N, rowsD rows] = .ok true (pD p)) (hP : P [pD p, .int N] = .ok true (.bl true)) (hO : S [.tup (o.map .int)] = .ok true (pD p)) (s0 s1 s2 s6 s7 : Sl) :
    inB S P SO [s0, s1, s2, .val true (.int N), .val true (tabU t), .val false (.tup (o.map .int)), s6, s7] = .nx [s0, s1, s2, .val true (.int N), .val true (tabU t), .val false (.tup (o.map .int)), .val true (pD p), .val true (.lst [])] := by
  obtain ⟨k, hk⟩ := ixD_ok hl
  let E : Env := [s0, s1, s2, .val true (.int N), .val true (tabU t), .val false (.tup (o.map .int)), s6, s7]
  obtain ⟨g, hg⟩ := op2_k (env := E) (a := var 4) (b := var 5) (show var 4 E = .ok false (tabU t) from rfl) (show var 5 E = .ok false (.tup (o.map .int)) from rfl) hk
  have a1 := asg_new (ks := [3, 4, 5]) (i := 6) (call2 (show var 3 E = .ok false (.int N) from rfl) hg hS)
  have a2 := asg_new (ks := [5]) (i := 7) (call1 (show var 5 (E.set 6 (.val true (pD p))) = .ok false (.tup (o.map .int)) from rfl) hO)
  let E2 : Env := [s0, s1, s2, .val true (.int N), .val true (tabU t), .val false (.tup (o.map .int)), .val true (pD p), .val true (pD p)]
  have h7 : var 7 E2 = .ok false (pD p) := rfl
  have h6 : var 6 E2 = .ok false (pD p) := rfl
  have c1 : callP P [(var 7), (var 3)] E2 = .ok true (.bl true) := call2 h7 (show var 3 E2 = .ok false (.int N) from rfl) hP
  have c2 : op2 dNe (var 7) (var 6) E2 = .ok true (.bl false) := op2_new h7 h6 (by rw [dNe_pD]; simp)
  have a3 : ifS (orP (notP (callP P [(var 7), (var 3)])) (op2 dNe (var 7) (var 6))) (retS (lift [] (cst (.bl false)))) passS E2 = .nx E2 := if_no ((or_ff (not_ok c1)).trans c2)
  have a4 : dropS (clearG 7) E2 = .nx [s0, s1, s2, .val true (.int N), .val true (tabU t), .val false (.tup (o.map .int)), .val true (pD p), .val true (.lst [])] := rfl
  have a5 : (scopeS [5, 6] [] (ifS (op2 dNe (callP S [(var 5)]) (var 6)) (retS (lift [] (cst (.bl false)))) passS)) [s0, s1, s2, .val true (.int N), .val true (tabU t), .val false (.tup (o.map .int)), .val true (pD p), .val true (.lst [])] = .nx [s0, s1, s2, .val true (.int N), .val true (tabU t), .val false (.tup (o.map .int)), .val true (pD p), .val true (.lst [])] :=
    scope_ok fun t0 t1 t2 t3 t4 t7 => if_no (op2_new (call1 (show var 5 _ = .ok false (.tup (o.map .int)) from rfl) hO) (show var 6 _ = .ok false (pD p) from rfl) (by rw [dNe_pD]; simp))
  exact (seq_nx a1).trans ((seq_nx a2).trans ((seq_nx a3).trans ((seq_nx a4).trans a5)))
theorem body_gen {S C : List D → PR} {T O : List D → RR} {P B SO : List D → PR} {n : Nat} (h1 : 1 ≤ n) (h5 : n ≤ 5) {d0 d1 : D} {c0 c1 c2 : Int} {t : Tb} (hc : C [d0, d1] = .ok true (.int c0)) (ht : T [.lst [.int c0], .int 5] = .ok true (.int ((n : Int) - 1)) (.lst [.int c1])) {o : List Int} (ho : o ∈ ords n) (hO : O [.lst [.int c1], .int (n : Nat)] = .ok true (.tup (o.map .int)) (.lst [.int c2])) (hB : B [.int (n : Nat)] = .ok true (tabU t))
    (hG : ∀ o ∈ ords n, ∃ rows p, lkT o t = some rows ∧ SO [.int (n : Nat), rowsD rows] = .ok true (pD p) ∧ P [pD p, .int (n : Nat)] = .ok true (.bl true) ∧ S [.tup (o.map .int)] = .ok true (pD p)) (s2 s3 s4 s5 s6 s7 : Sl) : ∃ t1 t2 t3 t4 t5 t6 t7, bodyL S C T O P B SO [.val false d0, .val false d1, s2, s3, s4, s5, s6, s7] = .nx [.val false d0, t1, t2, t3, t4, t5, t6, t7] := by
  have a1 := asg_new (ks := [0, 1]) (i := 2) (lst1 (call2 (env := [.val false d0, .val false d1, s2, s3, s4, s5, s6, s7]) (show var 0 _ = .ok false d0 from rfl) (show var 1 _ = .ok false d1 from rfl) hc))
  simp only [List.set] at a1
  have a2 := asg_ok (i := 3) (opNG2 (f := opf dAdd) (lift_new (ks := []) (cst_i [.val false d0, .val false d1, .val true (.lst [.int c0]), s3, s4, s5, s6, s7] 1) rfl) (take_asg ht) rfl)
  rw [show (1 : Int) + ((n : Int) - 1) = (n : Nat) by omega] at a2
  simp only [List.set] at a2
  have aB := asg_new (ks := [3]) (i := 4) (call1 (show var 3 [.val false d0, .val false d1, .val true (.lst [.int c1]), .val true (.int (n : Nat)), s4, s5, s6, s7] = .ok false (.int (n : Nat)) from rfl) hB)
  simp only [List.set] at aB
  have hO' : (callR 0 2 2 O [(.vr 2), (.vr 3)]) [.val false d0, .val false d1, .val true (.lst [.int c1]), .val true (.int (n : Nat)), .val true (tabU t), s5, s6, s7] = .ok true (.tup (o.map .int)) [.val false d0, .val false d1, .val true (.lst [.int c2]), .val true (.int (n : Nat)), .val true (tabU t), s5, s6, s7] := by
    simp [callR, argsG, Env.look, Sl.get, othersOk, valsU, Sl.mine, Sl.put, hO, noL]
  have hl := lstS3 hO' (rgP (by omega)) (rrP (by omega))
  obtain ⟨e, k, t5, t6, t7, rfl⟩ := loop_inv (τ := .nm 5) (m := inB S P SO) (ds := [.tup (o.map .int), .tup ((rgI n).map .int), .tup ((rgI n).reverse.map .int)]) (fun env => ∃ t5 t6 t7, env = [.val false d0, .val false d1, .val true (.lst [.int c2]), .val true (.int (n : Nat)), .val true (tabU t), t5, t6, t7]) (fun d hd env ⟨t5, t6, t7, he⟩ => by
    subst he
    obtain ⟨q, hq, rfl⟩ : ∃ q ∈ ords n, d = .tup (q.map .int) := by
      simp only [List.mem_cons, List.mem_nil_iff, or_false] at hd
      rcases hd with e | e | e
      · exact ⟨o, ho, e⟩
      · exact ⟨rgI n, rgI_ords n, e⟩
      · exact ⟨_, rv_ords h1 h5, e⟩
    obtain ⟨rows, p, h1, h2, h3, h4⟩ := hG q hq
    exact ⟨_, _, rfl, inB_ok h1 h2 h3 h4 _ _ _ t6 t7, _, _, _, rfl⟩) [.val false d0, .val false d1, .val true (.lst [.int c2]), .val true (.int (n : Nat)), .val true (tabU t), s5, s6, s7] ⟨_, _, _, rfl⟩
  have a3 : (forG (.nm 5) (iseqG (lstS [(.ex (callR 0 2 2 O [(.vr 2), (.vr 3)])), (.ex (lift [3] (tupRg (rg1 (var 3))))), (.ex (lift [3] (tupRR (rg1 (var 3)))))])) (inB S P SO)) [.val false d0, .val false d1, .val true (.lst [.int c1]), .val true (.int (n : Nat)), .val true (tabU t), s5, s6, s7] = .nx [.val false d0, .val false d1, .val true (.lst [.int c2]), .val true (.int (n : Nat)), .val true (tabU t), t5, t6, t7] := by
    rw [forG_lst hl]
    exact k
  exact ⟨_, _, _, _, _, _, _, by unfold bodyL; exact (seq_nx a1).trans ((seq_nx a2).trans ((seq_nx aB).trans a3))⟩
theorem takeT (c : Int) : fnR 3 0 m__law_take [.lst [.int c], .int 5] = .ok true (.int (c % 5)) (.lst [.int (c / 5)]) := take_ok c 5 (by decide) (by decide)
theorem body_ok (ns : List Int) (hl : ns.length ≤ 63) (k : Nat) (s2 s3 s4 s5 s6 s7 : Sl) : ∃ t1 t2 t3 t4 t5 t6 t7, bodyL (fnP 1 m_order_sum) (fnP 5 m__law_cell) (fnR 3 0 m__law_take) (fnR 5 0 m__law_order) (fnP 5 m__law_is_poly) (fnP 8 m__law_table) (fnP 5 m__law_sum_of) [.val false (.frz (ns.map .int)), .val false (.int (k : Nat)), s2, s3, s4, s5, s6, s7] = .nx [.val false (.frz (ns.map .int)), t1, t2, t3, t4, t5, t6, t7] := by
  obtain ⟨c, hc⟩ := cell_ok ns hl k
  obtain ⟨n, n1, n5, en⟩ : ∃ n : Nat, 1 ≤ n ∧ n ≤ 5 ∧ c % 5 = (n : Int) - 1 := by
    have h0 : 0 ≤ c % 5 := Int.emod_nonneg _ (by decide)
    have h1 : c % 5 < 5 := Int.emod_lt_of_pos _ (by decide)
    exact ⟨(1 + c % 5).toNat, by omega, by omega, by omega⟩
  have ht := takeT c
  rw [en] at ht
  obtain ⟨o, ho, c', e⟩ := order_ok (c / 5) n (by omega)
  exact body_gen n1 n5 hc ht ho e (table_ok n1 n5) (fun o ho => chk_ok n1 n5 ho) s2 s3 s4 s5 s6 s7
theorem law_plain (ns : List Int) (hl : ns.length ≤ 63) (hb : ∀ z ∈ ns, PySem.Builtin.Int.intBits z ≤ 1048576) : ∃ f, fnP 8 m_law [.frz (ns.map .int)] = .ok f (.bl true) := by
  have hz : szOk ns.length = true := szOk_small (by omega)
  have hn : (opN dLen [(var 0)]) [.val false (.frz (ns.map .int)), .emp, .emp, .emp, .emp, .emp, .emp, .emp] = .ok true (.int (ns.length : Nat)) := opN1_new (show var 0 _ = .ok false (.frz (ns.map .int)) from rfl) (by simp [dLen, hz])
  obtain ⟨j, hj, hi⟩ : ∃ j : Nat, j ≤ 4 ∧ irange1 (opN dMax2 [(opN dMin2 [(opN dLen [(var 0)]), (cst (.int 4))]), (cst (.int 1))]) [.val false (.frz (ns.map .int)), .emp, .emp, .emp, .emp, .emp, .emp, .emp] = .ok true (rgD 0 j) := by
    have hmx : (opN dMax2 [(opN dMin2 [(opN dLen [(var 0)]), (cst (.int 4))]), (cst (.int 1))]) [.val false (.frz (ns.map .int)), .emp, .emp, .emp, .emp, .emp, .emp, .emp] = .ok true (.int ((max (min ns.length 4) 1 : Nat) : Int)) := by
      have m1 : (opN dMin2 [(opN dLen [(var 0)]), (cst (.int 4))]) [.val false (.frz (ns.map .int)), .emp, .emp, .emp, .emp, .emp, .emp, .emp] = .ok true (.int ((min ns.length 4 : Nat) : Int)) := opN2_new hn (cst_i _ 4) (by simp [dMin2]; omega)
      exact opN2_new m1 (cst_i _ 1) (by simp [dMax2]; omega)
    refine ⟨max (min ns.length 4) 1, by omega, ?_⟩
    have := irange1_ok hmx (rgSz_nat (by omega))
    rwa [show (((max (min ns.length 4) 1 : Nat) : Int)).toNat = max (min ns.length 4) 1 by omega] at this
  obtain ⟨e, k, t1, t2, t3, t4, t5, t6, t7, rfl⟩ := loop_inv (τ := .nm 1) (m := bodyL (fnP 1 m_order_sum) (fnP 5 m__law_cell) (fnR 3 0 m__law_take) (fnR 5 0 m__law_order) (fnP 5 m__law_is_poly) (fnP 8 m__law_table) (fnP 5 m__law_sum_of)) (ds := rgD 0 j) (fun env => ∃ t1 t2 t3 t4 t5 t6 t7, env = [.val false (.frz (ns.map .int)), t1, t2, t3, t4, t5, t6, t7]) (fun d hd env ⟨t1, t2, t3, t4, t5, t6, t7, he⟩ => by
    obtain ⟨k, hk, rfl⟩ := mem_rgD hd
    subst he
    rw [Int.zero_add]
    obtain ⟨u1, u2, u3, u4, u5, u6, u7, h⟩ := body_ok ns hl k t2 t3 t4 t5 t6 t7
    exact ⟨_, _, rfl, h, _, _, _, _, _, _, _, rfl⟩) [.val false (.frz (ns.map .int)), .emp, .emp, .emp, .emp, .emp, .emp, .emp] ⟨_, _, _, _, _, _, _, rfl⟩
  refine ⟨true, fnP_rt (e := [.val false (.frz (ns.map .int)), t1, t2, t3, t4, t5, t6, t7]) ?_⟩
  show b_law _ _ _ _ _ _ _ [.val false (.frz (ns.map .int)), .emp, .emp, .emp, .emp, .emp, .emp, .emp] = _
  rw [law_eq, seq_nx ((for_ok hi (noLs_rgD _)).trans k)]
  rfl
end CB

namespace CB
open PySem L2 PySem.Spec PyProof.Rows
def top (i : Nat) : Stmt := PySem.Challenge.pw_crossbends_k38_sums_of_orders.main.body.getD i (.Pass ⟨0, 0, 0, 0⟩)
abbrev s_is_whole : Stmt := top 4
abbrev N_is_whole : List Str := ["thing"]
theorem sc_is_whole : FnScope N_is_whole ["thing"] (defScope s_is_whole) := ⟨rfl, rfl, rfl, by decide +kernel, rfl, by decide +kernel, by decide +kernel⟩
theorem vis_is_whole_thing : Vis (defScope s_is_whole) "thing" := .inl (by decide +kernel)
theorem gl_is_whole_bool : (defScope s_is_whole).names.lookup ("bool" : Str) = some .globalImplicit := by decide +kernel
theorem gl_is_whole_int : (defScope s_is_whole).names.lookup ("int" : Str) = some .globalImplicit := by decide +kernel
theorem gl_is_whole_isinstance : (defScope s_is_whole).names.lookup ("isinstance" : Str) = some .globalImplicit := by decide +kernel
abbrev s_gathered : Stmt := top 5
abbrev N_gathered : List Str := ["counts", "powers", "number"]
theorem sc_gathered : FnScope N_gathered ["counts"] (defScope s_gathered) := ⟨rfl, rfl, rfl, by decide +kernel, rfl, by decide +kernel, by decide +kernel⟩
theorem vis_gathered_counts : Vis (defScope s_gathered) "counts" := .inl (by decide +kernel)
theorem gl_gathered_sorted : (defScope s_gathered).names.lookup ("sorted" : Str) = some .globalImplicit := by decide +kernel
abbrev s_is_order : Stmt := top 8
abbrev N_is_order : List Str := ["thing", "one"]
theorem sc_is_order : FnScope N_is_order ["thing"] (defScope s_is_order) := ⟨rfl, rfl, rfl, by decide +kernel, rfl, by decide +kernel, by decide +kernel⟩
theorem vis_is_order_thing : Vis (defScope s_is_order) "thing" := .inl (by decide +kernel)
theorem gl_is_order_MOST : (defScope s_is_order).names.lookup ("MOST" : Str) = some .globalImplicit := by decide +kernel
theorem gl_is_order_all : (defScope s_is_order).names.lookup ("all" : Str) = some .globalImplicit := by decide +kernel
theorem gl_is_order_isinstance : (defScope s_is_order).names.lookup ("isinstance" : Str) = some .globalImplicit := by decide +kernel
theorem gl_is_order_len : (defScope s_is_order).names.lookup ("len" : Str) = some .globalImplicit := by decide +kernel
theorem gl_is_order_list : (defScope s_is_order).names.lookup ("list" : Str) = some .globalImplicit := by decide +kernel
theorem gl_is_order_range : (defScope s_is_order).names.lookup ("range" : Str) = some .globalImplicit := by decide +kernel
theorem gl_is_order_sorted : (defScope s_is_order).names.lookup ("sorted" : Str) = some .globalImplicit := by decide +kernel
theorem gl_is_order_tuple : (defScope s_is_order).names.lookup ("tuple" : Str) = some .globalImplicit := by decide +kernel
abbrev s_look_at_order : Stmt := top 9
abbrev N_look_at_order : List Str := ["thing"]
theorem sc_look_at_order : FnScope N_look_at_order ["thing"] (defScope s_look_at_order) := ⟨rfl, rfl, rfl, by decide +kernel, rfl, by decide +kernel, by decide +kernel⟩
theorem vis_look_at_order_thing : Vis (defScope s_look_at_order) "thing" := .inl (by decide +kernel)
theorem gl_look_at_order_BadOrder : (defScope s_look_at_order).names.lookup ("BadOrder" : Str) = some .globalImplicit := by decide +kernel
theorem gl_look_at_order_is_order : (defScope s_look_at_order).names.lookup ("is_order" : Str) = some .globalImplicit := by decide +kernel
abbrev s_plain : Stmt := top 10
abbrev N_plain : List Str := ["many"]
theorem sc_plain : FnScope N_plain ["many"] (defScope s_plain) := ⟨rfl, rfl, rfl, by decide +kernel, rfl, by decide +kernel, by decide +kernel⟩
theorem vis_plain_many : Vis (defScope s_plain) "many" := .inl (by decide +kernel)
theorem gl_plain_range : (defScope s_plain).names.lookup ("range" : Str) = some .globalImplicit := by decide +kernel
theorem gl_plain_tuple : (defScope s_plain).names.lookup ("tuple" : Str) = some .globalImplicit := by decide +kernel
abbrev s_least_by : Stmt := top 12
abbrev N_least_by : List Str := ["order", "found", "left", "back_falls", "k", "thing"]
theorem sc_least_by : FnScope N_least_by ["order"] (defScope s_least_by) := ⟨rfl, rfl, rfl, by decide +kernel, rfl, by decide +kernel, by decide +kernel⟩
theorem vis_least_by_back_falls : Vis (defScope s_least_by) "back_falls" := .inl (by decide +kernel)
theorem vis_least_by_found : Vis (defScope s_least_by) "found" := .inl (by decide +kernel)
theorem vis_least_by_k : Vis (defScope s_least_by) "k" := .inr (.inl (by decide +kernel))
theorem vis_least_by_left : Vis (defScope s_least_by) "left" := .inr (.inl (by decide +kernel))
theorem vis_least_by_order : Vis (defScope s_least_by) "order" := .inl (by decide +kernel)
theorem loc_least_by_found : Loc (defScope s_least_by) "found" := .inl (by decide +kernel)
theorem loc_least_by_k : Loc (defScope s_least_by) "k" := .inr (by decide +kernel)
theorem loc_least_by_left : Loc (defScope s_least_by) "left" := .inr (by decide +kernel)
theorem lcl_least_by_back_falls : (defScope s_least_by).names.lookup ("back_falls" : Str) = some .local := by decide +kernel
theorem gl_least_by_len : (defScope s_least_by).names.lookup ("len" : Str) = some .globalImplicit := by decide +kernel
theorem gl_least_by_plain : (defScope s_least_by).names.lookup ("plain" : Str) = some .globalImplicit := by decide +kernel
theorem gl_least_by_range : (defScope s_least_by).names.lookup ("range" : Str) = some .globalImplicit := by decide +kernel
theorem gl_least_by_tuple : (defScope s_least_by).names.lookup ("tuple" : Str) = some .globalImplicit := by decide +kernel
abbrev s_divided : Stmt := top 14
abbrev N_divided : List Str := ["some", "k", "counts", "powers", "number", "low", "high", "step", "turned"]
theorem sc_divided : FnScope N_divided ["some", "k"] (defScope s_divided) := ⟨rfl, rfl, rfl, by decide +kernel, rfl, by decide +kernel, by decide +kernel⟩
theorem vis_divided_counts : Vis (defScope s_divided) "counts" := .inl (by decide +kernel)
theorem vis_divided_high : Vis (defScope s_divided) "high" := .inl (by decide +kernel)
theorem vis_divided_k : Vis (defScope s_divided) "k" := .inl (by decide +kernel)
theorem vis_divided_low : Vis (defScope s_divided) "low" := .inl (by decide +kernel)
theorem vis_divided_number : Vis (defScope s_divided) "number" := .inl (by decide +kernel)
theorem vis_divided_powers : Vis (defScope s_divided) "powers" := .inl (by decide +kernel)
theorem vis_divided_some : Vis (defScope s_divided) "some" := .inl (by decide +kernel)
theorem vis_divided_step : Vis (defScope s_divided) "step" := .inl (by decide +kernel)
theorem vis_divided_turned : Vis (defScope s_divided) "turned" := .inl (by decide +kernel)
theorem loc_divided_counts : Loc (defScope s_divided) "counts" := .inl (by decide +kernel)
theorem loc_divided_high : Loc (defScope s_divided) "high" := .inl (by decide +kernel)
theorem loc_divided_low : Loc (defScope s_divided) "low" := .inl (by decide +kernel)
theorem loc_divided_number : Loc (defScope s_divided) "number" := .inl (by decide +kernel)
theorem loc_divided_powers : Loc (defScope s_divided) "powers" := .inl (by decide +kernel)
theorem loc_divided_step : Loc (defScope s_divided) "step" := .inl (by decide +kernel)
theorem loc_divided_turned : Loc (defScope s_divided) "turned" := .inl (by decide +kernel)
theorem gl_divided_gathered : (defScope s_divided).names.lookup ("gathered" : Str) = some .globalImplicit := by decide +kernel
theorem gl_divided_max : (defScope s_divided).names.lookup ("max" : Str) = some .globalImplicit := by decide +kernel
theorem gl_divided_min : (defScope s_divided).names.lookup ("min" : Str) = some .globalImplicit := by decide +kernel
theorem gl_divided_range : (defScope s_divided).names.lookup ("range" : Str) = some .globalImplicit := by decide +kernel
abbrev s_divided_by : Stmt := top 15
abbrev N_divided_by : List Str := ["some", "word", "k"]
theorem sc_divided_by : FnScope N_divided_by ["some", "word"] (defScope s_divided_by) := ⟨rfl, rfl, rfl, by decide +kernel, rfl, by decide +kernel, by decide +kernel⟩
theorem vis_divided_by_k : Vis (defScope s_divided_by) "k" := .inl (by decide +kernel)
theorem vis_divided_by_some : Vis (defScope s_divided_by) "some" := .inl (by decide +kernel)
theorem vis_divided_by_word : Vis (defScope s_divided_by) "word" := .inl (by decide +kernel)
theorem loc_divided_by_k : Loc (defScope s_divided_by) "k" := .inl (by decide +kernel)
theorem loc_divided_by_some : Loc (defScope s_divided_by) "some" := .inl (by decide +kernel)
theorem gl_divided_by_divided : (defScope s_divided_by).names.lookup ("divided" : Str) = some .globalImplicit := by decide +kernel
theorem gl_divided_by_reversed : (defScope s_divided_by).names.lookup ("reversed" : Str) = some .globalImplicit := by decide +kernel
abbrev s_stair : Stmt := top 17
abbrev N_stair : List Str := ["many", "place"]
theorem sc_stair : FnScope N_stair ["many"] (defScope s_stair) := ⟨rfl, rfl, rfl, by decide +kernel, rfl, by decide +kernel, by decide +kernel⟩
theorem vis_stair_many : Vis (defScope s_stair) "many" := .inr (.inl (by decide +kernel))
theorem gl_stair_range : (defScope s_stair).names.lookup ("range" : Str) = some .globalImplicit := by decide +kernel
theorem gl_stair_tuple : (defScope s_stair).names.lookup ("tuple" : Str) = some .globalImplicit := by decide +kernel
abbrev s_sum_of : Stmt := top 18
abbrev N_sum_of : List Str := ["order", "many", "undone", "place"]
theorem sc_sum_of : FnScope N_sum_of ["order"] (defScope s_sum_of) := ⟨rfl, rfl, rfl, by decide +kernel, rfl, by decide +kernel, by decide +kernel⟩
theorem vis_sum_of_many : Vis (defScope s_sum_of) "many" := .inr (.inl (by decide +kernel))
theorem vis_sum_of_order : Vis (defScope s_sum_of) "order" := .inr (.inl (by decide +kernel))
theorem vis_sum_of_undone : Vis (defScope s_sum_of) "undone" := .inl (by decide +kernel)
theorem loc_sum_of_many : Loc (defScope s_sum_of) "many" := .inr (by decide +kernel)
theorem loc_sum_of_undone : Loc (defScope s_sum_of) "undone" := .inl (by decide +kernel)
theorem gl_sum_of_divided_by : (defScope s_sum_of).names.lookup ("divided_by" : Str) = some .globalImplicit := by decide +kernel
theorem gl_sum_of_least_by : (defScope s_sum_of).names.lookup ("least_by" : Str) = some .globalImplicit := by decide +kernel
theorem gl_sum_of_len : (defScope s_sum_of).names.lookup ("len" : Str) = some .globalImplicit := by decide +kernel
theorem gl_sum_of_range : (defScope s_sum_of).names.lookup ("range" : Str) = some .globalImplicit := by decide +kernel
theorem gl_sum_of_stair : (defScope s_sum_of).names.lookup ("stair" : Str) = some .globalImplicit := by decide +kernel
theorem gl_sum_of_tuple : (defScope s_sum_of).names.lookup ("tuple" : Str) = some .globalImplicit := by decide +kernel
abbrev s_order_sum : Stmt := top 19
abbrev N_order_sum : List Str := ["order"]
theorem sc_order_sum : FnScope N_order_sum ["order"] (defScope s_order_sum) := ⟨rfl, rfl, rfl, by decide +kernel, rfl, by decide +kernel, by decide +kernel⟩
theorem vis_order_sum_order : Vis (defScope s_order_sum) "order" := .inl (by decide +kernel)
theorem gl_order_sum_look_at_order : (defScope s_order_sum).names.lookup ("look_at_order" : Str) = some .globalImplicit := by decide +kernel
theorem gl_order_sum_sum_of : (defScope s_order_sum).names.lookup ("sum_of" : Str) = some .globalImplicit := by decide +kernel
abbrev s__law_mixed : Stmt := top 21
abbrev N__law_mixed : List Str := ["_law_cell_here", "_law_k", "_law_number"]
theorem sc__law_mixed : FnScope N__law_mixed ["_law_cell_here", "_law_k"] (defScope s__law_mixed) := ⟨rfl, rfl, rfl, by decide +kernel, rfl, by decide +kernel, by decide +kernel⟩
theorem vis__law_mixed__law_cell_here : Vis (defScope s__law_mixed) "_law_cell_here" := .inl (by decide +kernel)
theorem vis__law_mixed__law_k : Vis (defScope s__law_mixed) "_law_k" := .inl (by decide +kernel)
theorem vis__law_mixed__law_number : Vis (defScope s__law_mixed) "_law_number" := .inl (by decide +kernel)
theorem loc__law_mixed__law_number : Loc (defScope s__law_mixed) "_law_number" := .inl (by decide +kernel)
abbrev s__law_cell : Stmt := top 22
abbrev N__law_cell : List Str := ["_law_script", "_law_k", "_law_cell_here", "_law_found", "_law_j"]
theorem sc__law_cell : FnScope N__law_cell ["_law_script", "_law_k"] (defScope s__law_cell) := ⟨rfl, rfl, rfl, by decide +kernel, rfl, by decide +kernel, by decide +kernel⟩
theorem vis__law_cell__law_cell_here : Vis (defScope s__law_cell) "_law_cell_here" := .inl (by decide +kernel)
theorem vis__law_cell__law_found : Vis (defScope s__law_cell) "_law_found" := .inl (by decide +kernel)
theorem vis__law_cell__law_j : Vis (defScope s__law_cell) "_law_j" := .inl (by decide +kernel)
theorem vis__law_cell__law_k : Vis (defScope s__law_cell) "_law_k" := .inl (by decide +kernel)
theorem vis__law_cell__law_script : Vis (defScope s__law_cell) "_law_script" := .inl (by decide +kernel)
theorem loc__law_cell__law_cell_here : Loc (defScope s__law_cell) "_law_cell_here" := .inl (by decide +kernel)
theorem loc__law_cell__law_found : Loc (defScope s__law_cell) "_law_found" := .inl (by decide +kernel)
theorem loc__law_cell__law_j : Loc (defScope s__law_cell) "_law_j" := .inl (by decide +kernel)
theorem gl__law_cell__law_mixed : (defScope s__law_cell).names.lookup ("_law_mixed" : Str) = some .globalImplicit := by decide +kernel
theorem gl__law_cell_len : (defScope s__law_cell).names.lookup ("len" : Str) = some .globalImplicit := by decide +kernel
theorem gl__law_cell_range : (defScope s__law_cell).names.lookup ("range" : Str) = some .globalImplicit := by decide +kernel
abbrev s__law_take : Stmt := top 23
abbrev N__law_take : List Str := ["_law_pile", "_law_size", "_law_digit"]
theorem sc__law_take : FnScope N__law_take ["_law_pile", "_law_size"] (defScope s__law_take) := ⟨rfl, rfl, rfl, by decide +kernel, rfl, by decide +kernel, by decide +kernel⟩
theorem vis__law_take__law_digit : Vis (defScope s__law_take) "_law_digit" := .inl (by decide +kernel)
theorem vis__law_take__law_pile : Vis (defScope s__law_take) "_law_pile" := .inl (by decide +kernel)
theorem vis__law_take__law_size : Vis (defScope s__law_take) "_law_size" := .inl (by decide +kernel)
theorem loc__law_take__law_digit : Loc (defScope s__law_take) "_law_digit" := .inl (by decide +kernel)
abbrev s__law_order : Stmt := top 24
abbrev N__law_order : List Str := ["_law_pile", "_law_many", "_law_left", "_law_found", "_law_place"]
theorem sc__law_order : FnScope N__law_order ["_law_pile", "_law_many"] (defScope s__law_order) := ⟨rfl, rfl, rfl, by decide +kernel, rfl, by decide +kernel, by decide +kernel⟩
theorem vis__law_order__law_found : Vis (defScope s__law_order) "_law_found" := .inl (by decide +kernel)
theorem vis__law_order__law_left : Vis (defScope s__law_order) "_law_left" := .inl (by decide +kernel)
theorem vis__law_order__law_many : Vis (defScope s__law_order) "_law_many" := .inl (by decide +kernel)
theorem vis__law_order__law_pile : Vis (defScope s__law_order) "_law_pile" := .inl (by decide +kernel)
theorem vis__law_order__law_place : Vis (defScope s__law_order) "_law_place" := .inl (by decide +kernel)
theorem loc__law_order__law_found : Loc (defScope s__law_order) "_law_found" := .inl (by decide +kernel)
theorem loc__law_order__law_left : Loc (defScope s__law_order) "_law_left" := .inl (by decide +kernel)
theorem loc__law_order__law_place : Loc (defScope s__law_order) "_law_place" := .inl (by decide +kernel)
theorem gl__law_order__law_take : (defScope s__law_order).names.lookup ("_law_take" : Str) = some .globalImplicit := by decide +kernel
theorem gl__law_order_list : (defScope s__law_order).names.lookup ("list" : Str) = some .globalImplicit := by decide +kernel
theorem gl__law_order_range : (defScope s__law_order).names.lookup ("range" : Str) = some .globalImplicit := by decide +kernel
theorem gl__law_order_tuple : (defScope s__law_order).names.lookup ("tuple" : Str) = some .globalImplicit := by decide +kernel
abbrev s__law_swapped : Stmt := top 25
abbrev N__law_swapped : List Str := ["_law_order_here", "_law_i", "_law_j", "_law_found"]
theorem sc__law_swapped : FnScope N__law_swapped ["_law_order_here", "_law_i", "_law_j"] (defScope s__law_swapped) := ⟨rfl, rfl, rfl, by decide +kernel, rfl, by decide +kernel, by decide +kernel⟩
theorem vis__law_swapped__law_found : Vis (defScope s__law_swapped) "_law_found" := .inl (by decide +kernel)
theorem vis__law_swapped__law_i : Vis (defScope s__law_swapped) "_law_i" := .inl (by decide +kernel)
theorem vis__law_swapped__law_j : Vis (defScope s__law_swapped) "_law_j" := .inl (by decide +kernel)
theorem vis__law_swapped__law_order_here : Vis (defScope s__law_swapped) "_law_order_here" := .inl (by decide +kernel)
theorem loc__law_swapped__law_found : Loc (defScope s__law_swapped) "_law_found" := .inl (by decide +kernel)
theorem gl__law_swapped_list : (defScope s__law_swapped).names.lookup ("list" : Str) = some .globalImplicit := by decide +kernel
theorem gl__law_swapped_tuple : (defScope s__law_swapped).names.lookup ("tuple" : Str) = some .globalImplicit := by decide +kernel
abbrev s__law_gathered : Stmt := top 26
abbrev N__law_gathered : List Str := ["_law_counts", "_law_powers", "_law_number"]
theorem sc__law_gathered : FnScope N__law_gathered ["_law_counts"] (defScope s__law_gathered) := ⟨rfl, rfl, rfl, by decide +kernel, rfl, by decide +kernel, by decide +kernel⟩
theorem vis__law_gathered__law_counts : Vis (defScope s__law_gathered) "_law_counts" := .inl (by decide +kernel)
theorem gl__law_gathered_sorted : (defScope s__law_gathered).names.lookup ("sorted" : Str) = some .globalImplicit := by decide +kernel
abbrev s__law_whole : Stmt := top 27
abbrev N__law_whole : List Str := ["_law_found"]
theorem sc__law_whole : FnScope N__law_whole ["_law_found"] (defScope s__law_whole) := ⟨rfl, rfl, rfl, by decide +kernel, rfl, by decide +kernel, by decide +kernel⟩
theorem vis__law_whole__law_found : Vis (defScope s__law_whole) "_law_found" := .inl (by decide +kernel)
theorem gl__law_whole_bool : (defScope s__law_whole).names.lookup ("bool" : Str) = some .globalImplicit := by decide +kernel
theorem gl__law_whole_int : (defScope s__law_whole).names.lookup ("int" : Str) = some .globalImplicit := by decide +kernel
theorem gl__law_whole_isinstance : (defScope s__law_whole).names.lookup ("isinstance" : Str) = some .globalImplicit := by decide +kernel
abbrev s__law_is_poly : Stmt := top 28
abbrev N__law_is_poly : List Str := ["_law_found", "_law_many", "_law_one", "_law_power", "_law_k"]
theorem sc__law_is_poly : FnScope N__law_is_poly ["_law_found", "_law_many"] (defScope s__law_is_poly) := ⟨rfl, rfl, rfl, by decide +kernel, rfl, by decide +kernel, by decide +kernel⟩
theorem vis__law_is_poly__law_found : Vis (defScope s__law_is_poly) "_law_found" := .inr (.inl (by decide +kernel))
theorem vis__law_is_poly__law_many : Vis (defScope s__law_is_poly) "_law_many" := .inl (by decide +kernel)
theorem vis__law_is_poly__law_one : Vis (defScope s__law_is_poly) "_law_one" := .inl (by decide +kernel)
theorem loc__law_is_poly__law_one : Loc (defScope s__law_is_poly) "_law_one" := .inl (by decide +kernel)
theorem gl__law_is_poly__law_whole : (defScope s__law_is_poly).names.lookup ("_law_whole" : Str) = some .globalImplicit := by decide +kernel
theorem gl__law_is_poly_all : (defScope s__law_is_poly).names.lookup ("all" : Str) = some .globalImplicit := by decide +kernel
theorem gl__law_is_poly_isinstance : (defScope s__law_is_poly).names.lookup ("isinstance" : Str) = some .globalImplicit := by decide +kernel
theorem gl__law_is_poly_len : (defScope s__law_is_poly).names.lookup ("len" : Str) = some .globalImplicit := by decide +kernel
theorem gl__law_is_poly_list : (defScope s__law_is_poly).names.lookup ("list" : Str) = some .globalImplicit := by decide +kernel
theorem gl__law_is_poly_range : (defScope s__law_is_poly).names.lookup ("range" : Str) = some .globalImplicit := by decide +kernel
theorem gl__law_is_poly_tuple : (defScope s__law_is_poly).names.lookup ("tuple" : Str) = some .globalImplicit := by decide +kernel
abbrev s__law_table : Stmt := top 29
abbrev N__law_table : List Str := ["_law_many", "_law_found", "_law_rows", "_law_i", "_law_j", "_law_more", "_law_drawing", "_law_order_here"]
theorem sc__law_table : FnScope N__law_table ["_law_many"] (defScope s__law_table) := ⟨rfl, rfl, rfl, by decide +kernel, rfl, by decide +kernel, by decide +kernel⟩
theorem vis__law_table__law_drawing : Vis (defScope s__law_table) "_law_drawing" := .inl (by decide +kernel)
theorem vis__law_table__law_found : Vis (defScope s__law_table) "_law_found" := .inl (by decide +kernel)
theorem vis__law_table__law_i : Vis (defScope s__law_table) "_law_i" := .inl (by decide +kernel)
theorem vis__law_table__law_j : Vis (defScope s__law_table) "_law_j" := .inl (by decide +kernel)
theorem vis__law_table__law_many : Vis (defScope s__law_table) "_law_many" := .inl (by decide +kernel)
theorem vis__law_table__law_more : Vis (defScope s__law_table) "_law_more" := .inl (by decide +kernel)
theorem vis__law_table__law_order_here : Vis (defScope s__law_table) "_law_order_here" := .inl (by decide +kernel)
theorem vis__law_table__law_rows : Vis (defScope s__law_table) "_law_rows" := .inl (by decide +kernel)
theorem loc__law_table__law_drawing : Loc (defScope s__law_table) "_law_drawing" := .inl (by decide +kernel)
theorem loc__law_table__law_found : Loc (defScope s__law_table) "_law_found" := .inl (by decide +kernel)
theorem loc__law_table__law_i : Loc (defScope s__law_table) "_law_i" := .inl (by decide +kernel)
theorem loc__law_table__law_j : Loc (defScope s__law_table) "_law_j" := .inl (by decide +kernel)
theorem loc__law_table__law_more : Loc (defScope s__law_table) "_law_more" := .inl (by decide +kernel)
theorem loc__law_table__law_order_here : Loc (defScope s__law_table) "_law_order_here" := .inl (by decide +kernel)
theorem loc__law_table__law_rows : Loc (defScope s__law_table) "_law_rows" := .inl (by decide +kernel)
theorem gl__law_table__law_swapped : (defScope s__law_table).names.lookup ("_law_swapped" : Str) = some .globalImplicit := by decide +kernel
theorem gl__law_table_range : (defScope s__law_table).names.lookup ("range" : Str) = some .globalImplicit := by decide +kernel
theorem gl__law_table_reversed : (defScope s__law_table).names.lookup ("reversed" : Str) = some .globalImplicit := by decide +kernel
theorem gl__law_table_sorted : (defScope s__law_table).names.lookup ("sorted" : Str) = some .globalImplicit := by decide +kernel
theorem gl__law_table_tuple : (defScope s__law_table).names.lookup ("tuple" : Str) = some .globalImplicit := by decide +kernel
abbrev s__law_terms : Stmt := top 30
abbrev N__law_terms : List Str := ["_law_many", "_law_drawing", "_law_row", "_law_one"]
theorem sc__law_terms : FnScope N__law_terms ["_law_many", "_law_drawing"] (defScope s__law_terms) := ⟨rfl, rfl, rfl, by decide +kernel, rfl, by decide +kernel, by decide +kernel⟩
theorem vis__law_terms__law_many : Vis (defScope s__law_terms) "_law_many" := .inl (by decide +kernel)
theorem gl__law_terms_range : (defScope s__law_terms).names.lookup ("range" : Str) = some .globalImplicit := by decide +kernel
theorem gl__law_terms_tuple : (defScope s__law_terms).names.lookup ("tuple" : Str) = some .globalImplicit := by decide +kernel
abbrev s__law_sum_of : Stmt := top 31
abbrev N__law_sum_of : List Str := ["_law_many", "_law_rows", "_law_counts", "_law_drawing", "_law_powers"]
theorem sc__law_sum_of : FnScope N__law_sum_of ["_law_many", "_law_rows"] (defScope s__law_sum_of) := ⟨rfl, rfl, rfl, by decide +kernel, rfl, by decide +kernel, by decide +kernel⟩
theorem vis__law_sum_of__law_counts : Vis (defScope s__law_sum_of) "_law_counts" := .inl (by decide +kernel)
theorem vis__law_sum_of__law_drawing : Vis (defScope s__law_sum_of) "_law_drawing" := .inl (by decide +kernel)
theorem vis__law_sum_of__law_many : Vis (defScope s__law_sum_of) "_law_many" := .inl (by decide +kernel)
theorem vis__law_sum_of__law_powers : Vis (defScope s__law_sum_of) "_law_powers" := .inl (by decide +kernel)
theorem vis__law_sum_of__law_rows : Vis (defScope s__law_sum_of) "_law_rows" := .inl (by decide +kernel)
theorem loc__law_sum_of__law_counts : Loc (defScope s__law_sum_of) "_law_counts" := .inl (by decide +kernel)
theorem loc__law_sum_of__law_drawing : Loc (defScope s__law_sum_of) "_law_drawing" := .inl (by decide +kernel)
theorem loc__law_sum_of__law_powers : Loc (defScope s__law_sum_of) "_law_powers" := .inl (by decide +kernel)
theorem gl__law_sum_of__law_gathered : (defScope s__law_sum_of).names.lookup ("_law_gathered" : Str) = some .globalImplicit := by decide +kernel
theorem gl__law_sum_of__law_terms : (defScope s__law_sum_of).names.lookup ("_law_terms" : Str) = some .globalImplicit := by decide +kernel
abbrev s_law : Stmt := top 32
abbrev N_law : List Str := ["_law_script", "_law_turn", "_law_pile", "_law_many", "_law_table_here", "_law_order_here", "_law_due", "_law_found"]
theorem sc_law : FnScope N_law ["_law_script"] (defScope s_law) := ⟨rfl, rfl, rfl, by decide +kernel, rfl, by decide +kernel, by decide +kernel⟩
theorem vis_law__law_due : Vis (defScope s_law) "_law_due" := .inl (by decide +kernel)
theorem vis_law__law_found : Vis (defScope s_law) "_law_found" := .inl (by decide +kernel)
theorem vis_law__law_many : Vis (defScope s_law) "_law_many" := .inl (by decide +kernel)
theorem vis_law__law_order_here : Vis (defScope s_law) "_law_order_here" := .inl (by decide +kernel)
theorem vis_law__law_pile : Vis (defScope s_law) "_law_pile" := .inl (by decide +kernel)
theorem vis_law__law_script : Vis (defScope s_law) "_law_script" := .inl (by decide +kernel)
theorem vis_law__law_table_here : Vis (defScope s_law) "_law_table_here" := .inl (by decide +kernel)
theorem vis_law__law_turn : Vis (defScope s_law) "_law_turn" := .inl (by decide +kernel)
theorem loc_law__law_due : Loc (defScope s_law) "_law_due" := .inl (by decide +kernel)
theorem loc_law__law_found : Loc (defScope s_law) "_law_found" := .inl (by decide +kernel)
theorem loc_law__law_many : Loc (defScope s_law) "_law_many" := .inl (by decide +kernel)
theorem loc_law__law_order_here : Loc (defScope s_law) "_law_order_here" := .inl (by decide +kernel)
theorem loc_law__law_pile : Loc (defScope s_law) "_law_pile" := .inl (by decide +kernel)
theorem loc_law__law_table_here : Loc (defScope s_law) "_law_table_here" := .inl (by decide +kernel)
theorem loc_law__law_turn : Loc (defScope s_law) "_law_turn" := .inl (by decide +kernel)
theorem gl_law__law_cell : (defScope s_law).names.lookup ("_law_cell" : Str) = some .globalImplicit := by decide +kernel
theorem gl_law__law_is_poly : (defScope s_law).names.lookup ("_law_is_poly" : Str) = some .globalImplicit := by decide +kernel
theorem gl_law__law_order : (defScope s_law).names.lookup ("_law_order" : Str) = some .globalImplicit := by decide +kernel
theorem gl_law__law_sum_of : (defScope s_law).names.lookup ("_law_sum_of" : Str) = some .globalImplicit := by decide +kernel
theorem gl_law__law_table : (defScope s_law).names.lookup ("_law_table" : Str) = some .globalImplicit := by decide +kernel
theorem gl_law__law_take : (defScope s_law).names.lookup ("_law_take" : Str) = some .globalImplicit := by decide +kernel
theorem gl_law_len : (defScope s_law).names.lookup ("len" : Str) = some .globalImplicit := by decide +kernel
theorem gl_law_max : (defScope s_law).names.lookup ("max" : Str) = some .globalImplicit := by decide +kernel
theorem gl_law_min : (defScope s_law).names.lookup ("min" : Str) = some .globalImplicit := by decide +kernel
theorem gl_law_order_sum : (defScope s_law).names.lookup ("order_sum" : Str) = some .globalImplicit := by decide +kernel
theorem gl_law_range : (defScope s_law).names.lookup ("range" : Str) = some .globalImplicit := by decide +kernel
theorem gl_law_reversed : (defScope s_law).names.lookup ("reversed" : Str) = some .globalImplicit := by decide +kernel
theorem gl_law_tuple : (defScope s_law).names.lookup ("tuple" : Str) = some .globalImplicit := by decide +kernel
section
variable [CT] {P : Program} {w : World} {K : PySem.W.Frag} {mg : Str → Option Value} {base : Heap}
theorem ok_is_whole (D : Defd K mg "is_whole" s_is_whole) (b_bool : mg "bool" = none) (b_int : mg "int" = none) (b_isinstance : mg "isinstance" = none) : Cal P w K mg base "is_whole" 1 ["thing"] (spF 1 mg (fnP 1 m_is_whole)) :=
  D.cal sc_is_whole rfl (by decide) (fun f cdv A outer s H E hr => by
  have PC : Passes (L2.CX P w) (cxOf (L2.CX P w) P w K mg base N_is_whole "is_whole" (defScope s_is_whole) f cdv A outer s H E) E := passes_call (takes_of rfl rfl rfl rfl) (fun _ _ _ _ h => h)
  have PO : PassesOwn (model P w) (cxOf (L2.CX P w) P w K mg base N_is_whole "is_whole" (defScope s_is_whole) f cdv A outer s H E).A (cxOf (L2.CX P w) P w K mg base N_is_whole "is_whole" (defScope s_is_whole) f cdv A outer s H E).env (cxOf (L2.CX P w) P w K mg base N_is_whole "is_whole" (defScope s_is_whole) f cdv A outer s H E).xe := passes_of rfl
  unfold m_is_whole
  exact (sndb_one (snds_ret (snde_pure [0] (snd_and (snd_isT (snd_var 0 rfl vis_is_whole_thing) gl_is_whole_isinstance b_isinstance gl_is_whole_int b_int bt_int) (snd_one (snd_not (snd_isT (snd_var 0 rfl vis_is_whole_thing) gl_is_whole_isinstance b_isinstance gl_is_whole_bool b_bool bt_bool))))))))
  (fun _ _ _ _ _ _ us hl => match us, hl with | [_], _ => rfl)

theorem ok_gathered (D : Defd K mg "gathered" s_gathered) (b_sorted : mg "sorted" = none) : Cal P w K mg base "gathered" 1 ["counts"] (spF 1 mg (fnP 3 m_gathered)) :=
  D.cal sc_gathered rfl (by decide) (fun f cdv A outer s H E hr => by
  have PC : Passes (L2.CX P w) (cxOf (L2.CX P w) P w K mg base N_gathered "gathered" (defScope s_gathered) f cdv A outer s H E) E := passes_call (takes_of rfl rfl rfl rfl) (fun _ _ _ _ h => h)
  have PO : PassesOwn (model P w) (cxOf (L2.CX P w) P w K mg base N_gathered "gathered" (defScope s_gathered) f cdv A outer s H E).A (cxOf (L2.CX P w) P w K mg base N_gathered "gathered" (defScope s_gathered) f cdv A outer s H E).env (cxOf (L2.CX P w) P w K mg base N_gathered "gathered" (defScope s_gathered) f cdv A outer s H E).xe := passes_of rfl
  unfold m_gathered
  exact (sndb_one (snds_ret (snde_pure [0] (snd_sortV hr.units gl_gathered_sorted b_sorted (snda_cons (snd_comp (own := [("powers", 1), ("number", 2)]) rfl sc_gathered.nd (sndi_items (snd_var 0 rfl vis_gathered_counts)) (blk_of N_gathered (defScope s_gathered) (by decide +kernel)) (fun _ _ _ _ _ => (sndg_tp rfl (sndgs_cons sc_gathered.nd rfl (locL (by decide +kernel)) (sndgs_cons sc_gathered.nd rfl (locL (by decide +kernel)) sndgs_nil (hf := fnL (by decide +kernel))) (hf := fnL (by decide +kernel))))) (fun _ _ _ _ _ => (sndts_one (sndt_cmp (op_neD hr.units) (v_ne _) (snd_var 2 rfl (visL (by decide +kernel))) snd_int (nomark _)))) (fun _ _ _ _ _ => (snd_tup (snda_cons (snd_var 1 rfl (visL (by decide +kernel))) (snda_cons (snd_var 2 rfl (visL (by decide +kernel))) snda_nil))))) snda_nil))))))
  (fun _ _ _ _ _ _ us hl => match us, hl with | [_], _ => rfl)

theorem ok_is_order (D : Defd K mg "is_order" s_is_order) (b_all : mg "all" = none) (b_isinstance : mg "isinstance" = none) (b_len : mg "len" = none) (b_list : mg "list" = none) (b_range : mg "range" = none) (b_sorted : mg "sorted" = none) (b_tuple : mg "tuple" = none) (g_MOST : ∃ t, mg "MOST" = some (.int 5 t)) (c_is_whole : Cal P w K mg base "is_whole" 1 ["thing"] (spF 1 mg (fnP 1 m_is_whole))) : Cal P w K mg base "is_order" 2 ["thing"] (spF 1 mg (fnP 2 m_is_order)) :=
  D.cal sc_is_order rfl (by decide) (fun f cdv A outer s H E hr => by
  have PC : Passes (L2.CX P w) (cxOf (L2.CX P w) P w K mg base N_is_order "is_order" (defScope s_is_order) f cdv A outer s H E) E := passes_call (takes_of rfl rfl rfl rfl) (fun _ _ _ _ h => h)
  have PO : PassesOwn (model P w) (cxOf (L2.CX P w) P w K mg base N_is_order "is_order" (defScope s_is_order) f cdv A outer s H E).A (cxOf (L2.CX P w) P w K mg base N_is_order "is_order" (defScope s_is_order) f cdv A outer s H E).env (cxOf (L2.CX P w) P w K mg base N_is_order "is_order" (defScope s_is_order) f cdv A outer s H E).xe := passes_of rfl
  unfold m_is_order b_is_order
  exact (sndb_cons (snds_if (SndW.t (sndw_or (sndt_not (sndt_val (snd_isT (snd_var 0 rfl vis_is_order_thing) gl_is_order_isinstance b_isinstance gl_is_order_tuple b_tuple bt_tuple))) (sndw_or (sndt_cmp op_lt v_lt (snd_b call_len (v_len _) gl_is_order_len b_len bt_len (snda_cons (snd_var 0 rfl vis_is_order_thing) snda_nil)) snd_int (nomark _)) (sndw_or1 (sndt_cmp op_gt v_gt (snd_b call_len (v_len _) gl_is_order_len b_len bt_len (snda_cons (snd_var 0 rfl vis_is_order_thing) snda_nil)) (sndgi g_MOST gl_is_order_MOST) (nomark _)))))) (sndb_one (snds_ret (snde_pure [] snd_bl))) sndb_nil)
  (sndb_one (snds_ret (snde_pure [0] (snd_and (snd_b (cr_all rfl) (v_all _) gl_is_order_all b_all bt_all (snda_cons (snd_comp (own := [("one", 1)]) rfl sc_is_order.nd (sndi_seq (snd_var 0 rfl vis_is_order_thing)) (blk_of N_is_order (defScope s_is_order) (by decide +kernel)) (fun _ _ _ _ _ => (sndg_nm sc_is_order.nd rfl (locL (by decide +kernel)) (hf := fnL (by decide +kernel)))) (fun _ _ _ _ _ => sndts_nil) (fun _ _ _ _ _ => (sndc c_is_whole hr (by decide) passL (glB (by decide +kernel)) (snda_cons (snd_var 1 rfl (visL (by decide +kernel))) snda_nil)))) snda_nil)) (snd_one (snd_cmp (op_eqD hr.units) (v_eq _) (snd_b (cr_sortG hr.units) (v_sortR _ false) gl_is_order_sorted b_sorted bt_sorted (snda_cons (snd_var 0 rfl vis_is_order_thing) snda_nil)) (snd_lstRg rfl (sndr_1 (snd_b call_len (v_len _) gl_is_order_len b_len bt_len (snda_cons (snd_var 0 rfl vis_is_order_thing) snda_nil)) gl_is_order_range b_range) gl_is_order_list b_list) (nomark _)))))))))
  (fun _ _ _ _ _ _ us hl => match us, hl with | [_], _ => rfl)

theorem ok_look_at_order (D : Defd K mg "look_at_order" s_look_at_order) (x_BadOrder : ∃ C, OwnX K mg "BadOrder" C) (c_is_order : Cal P w K mg base "is_order" 2 ["thing"] (spF 1 mg (fnP 2 m_is_order))) : Cal P w K mg base "look_at_order" 3 ["thing"] (spF 1 mg (fnP 1 m_look_at_order)) :=
  D.cal sc_look_at_order rfl (by decide) (fun f cdv A outer s H E hr => by
  have PC : Passes (L2.CX P w) (cxOf (L2.CX P w) P w K mg base N_look_at_order "look_at_order" (defScope s_look_at_order) f cdv A outer s H E) E := passes_call (takes_of rfl rfl rfl rfl) (fun _ _ _ _ h => h)
  have PO : PassesOwn (model P w) (cxOf (L2.CX P w) P w K mg base N_look_at_order "look_at_order" (defScope s_look_at_order) f cdv A outer s H E).A (cxOf (L2.CX P w) P w K mg base N_look_at_order "look_at_order" (defScope s_look_at_order) f cdv A outer s H E).env (cxOf (L2.CX P w) P w K mg base N_look_at_order "look_at_order" (defScope s_look_at_order) f cdv A outer s H E).xe := passes_of rfl
  have TK : Takes (cxOf (L2.CX P w) P w K mg base N_look_at_order "look_at_order" (defScope s_look_at_order) f cdv A outer s H E) (fun cl d _ H => E cl d H) := takes_of rfl rfl rfl rfl
  unfold m_look_at_order b_look_at_order
  exact (sndb_one (snds_if (sndt_not (sndt_val (sndc c_is_order hr (by decide) PC gl_look_at_order_is_order (snda_cons (snd_var 0 rfl vis_look_at_order_thing) snda_nil)))) (sndb_one (snds_raise x_BadOrder rfl TK gl_look_at_order_BadOrder)) sndb_nil)))
  (fun _ _ _ _ _ _ us hl => match us, hl with | [_], _ => rfl)

theorem ok_plain (D : Defd K mg "plain" s_plain) (b_range : mg "range" = none) (b_tuple : mg "tuple" = none) : Cal P w K mg base "plain" 1 ["many"] (spF 1 mg (fnP 1 m_plain)) :=
  D.cal sc_plain rfl (by decide) (fun f cdv A outer s H E hr => by
  have PC : Passes (L2.CX P w) (cxOf (L2.CX P w) P w K mg base N_plain "plain" (defScope s_plain) f cdv A outer s H E) E := passes_call (takes_of rfl rfl rfl rfl) (fun _ _ _ _ h => h)
  have PO : PassesOwn (model P w) (cxOf (L2.CX P w) P w K mg base N_plain "plain" (defScope s_plain) f cdv A outer s H E).A (cxOf (L2.CX P w) P w K mg base N_plain "plain" (defScope s_plain) f cdv A outer s H E).env (cxOf (L2.CX P w) P w K mg base N_plain "plain" (defScope s_plain) f cdv A outer s H E).xe := passes_of rfl
  unfold m_plain
  exact (sndb_one (snds_ret (snde_pure [0] (snd_tupRg rfl (sndr_1 (snd_var 0 rfl vis_plain_many) gl_plain_range b_range) gl_plain_tuple b_tuple)))))
  (fun _ _ _ _ _ _ us hl => match us, hl with | [_], _ => rfl)

theorem ok_least_by (D : Defd K mg "least_by" s_least_by) (b_len : mg "len" = none) (b_range : mg "range" = none) (b_tuple : mg "tuple" = none) (c_plain : Cal P w K mg base "plain" 1 ["many"] (spF 1 mg (fnP 1 m_plain))) : Cal P w K mg base "least_by" 2 ["order"] (spF 1 mg (fnP 6 m_least_by)) :=
  D.cal sc_least_by rfl (by decide) (fun f cdv A outer s H E hr => by
  have PC : Passes (L2.CX P w) (cxOf (L2.CX P w) P w K mg base N_least_by "least_by" (defScope s_least_by) f cdv A outer s H E) E := passes_call (takes_of rfl rfl rfl rfl) (fun _ _ _ _ h => h)
  have PO : PassesOwn (model P w) (cxOf (L2.CX P w) P w K mg base N_least_by "least_by" (defScope s_least_by) f cdv A outer s H E).A (cxOf (L2.CX P w) P w K mg base N_least_by "least_by" (defScope s_least_by) f cdv A outer s H E).env (cxOf (L2.CX P w) P w K mg base N_least_by "least_by" (defScope s_least_by) f cdv A outer s H E).xe := passes_of rfl
  unfold m_least_by b_least_by
  exact (sndb_cons (snds_set (snde_pure [] (snd_lst snda_nil)) sc_least_by.nd rfl loc_least_by_found)
  (sndb_cons (snds_set (snde_pure [0] (snd_var 0 rfl vis_least_by_order)) sc_least_by.nd rfl loc_least_by_left)
  (sndb_cons (snds_while 1000 PO (sndtg_pure (sndt_cmp (op_neD hr.units) (v_ne _) (snd_var 2 rfl vis_least_by_left) (sndc c_plain hr (by decide) PC gl_least_by_plain (snda_cons (snd_b call_len (v_len _) gl_least_by_len b_len bt_len (snda_cons (snd_var 0 rfl vis_least_by_order) snda_nil)) snda_nil)) (nomark _))) (sndb_cons (snds_setC [2, 4] (own := [("k", 4)]) rfl sc_least_by.nd rfl lcl_least_by_back_falls rfl (sndi_range1 (snd_bin op_sub v_sub (snd_b call_len (v_len _) gl_least_by_len b_len bt_len (snda_cons (snd_var 2 rfl vis_least_by_left) snda_nil)) snd_int) gl_least_by_range b_range) (blk_of N_least_by (defScope s_least_by) (by decide +kernel)) (fun _ _ _ _ _ => (sndg_nm sc_least_by.nd rfl (locL (by decide +kernel)) (hf := fnL (by decide +kernel)))) (fun _ _ _ _ _ => (sndts_one (sndt_cmp op_gt v_gt (snd_tindex (snd_var 2 rfl (visF (by decide +kernel))) (snd_var 4 rfl (visL (by decide +kernel)))) (snd_tindex (snd_var 2 rfl (visF (by decide +kernel))) (snd_bin op_addA (v_add _) (snd_var 4 rfl (visL (by decide +kernel))) snd_int)) (nomark _)))) (fun _ _ _ _ _ => (snd_var 4 rfl (visL (by decide +kernel)))))
  (sndb_cons (snds_set (snde_pure [3] (snd_ix ix_seq (v_ix _) (snd_var 3 rfl vis_least_by_back_falls) snd_int)) sc_least_by.nd rfl loc_least_by_k)
  (sndb_cons (snds_expr (snde_append rfl vis_least_by_found (snde_pure [4] (snd_var 4 rfl vis_least_by_k))))
  (sndb_one (snds_set (snde_pure [2, 4] (snd_ty cr_tupOf (v_tupOf _) gl_least_by_tuple b_tuple bt_tuple (snda_cons (snd_comp (own := [("thing", 5)]) rfl sc_least_by.nd (sndi_seq (snd_var 2 rfl vis_least_by_left)) (blk_of N_least_by (defScope s_least_by) (by decide +kernel)) (fun _ _ _ _ _ => (sndg_nm sc_least_by.nd rfl (locL (by decide +kernel)) (hf := fnL (by decide +kernel)))) (fun _ _ _ _ _ => sndts_nil) (fun _ _ _ _ _ => (snd_if (sndt_cmp (op_inA (u65 hr)) (v_in _) (snd_var 5 rfl (visL (by decide +kernel))) (snd_tup (snda_cons (snd_var 4 rfl (visF (by decide +kernel))) (snda_cons (snd_bin op_addA (v_add _) (snd_var 4 rfl (visF (by decide +kernel))) snd_int) snda_nil))) (by rfl)) (snd_bin op_sub v_sub (snd_bin op_addA (v_add _) (snd_bin op_addA (v_add _) (snd_var 4 rfl (visF (by decide +kernel))) (snd_var 4 rfl (visF (by decide +kernel)))) snd_int) (snd_var 5 rfl (visL (by decide +kernel)))) (snd_var 5 rfl (visL (by decide +kernel)))))) snda_nil))) sc_least_by.nd rfl loc_least_by_left))))))
  (sndb_one (snds_ret (snde_mv 1 rfl vis_least_by_found)))))))
  (fun _ _ _ _ _ _ us hl => match us, hl with | [_], _ => rfl)

theorem ok_divided (D : Defd K mg "divided" s_divided) (b_max : mg "max" = none) (b_min : mg "min" = none) (b_range : mg "range" = none) (c_gathered : Cal P w K mg base "gathered" 1 ["counts"] (spF 1 mg (fnP 3 m_gathered))) : Cal P w K mg base "divided" 2 ["some", "k"] (spF 2 mg (fnP 9 m_divided)) :=
  D.cal sc_divided rfl (by decide) (fun f cdv A outer s H E hr => by
  have PC : Passes (L2.CX P w) (cxOf (L2.CX P w) P w K mg base N_divided "divided" (defScope s_divided) f cdv A outer s H E) E := passes_call (takes_of rfl rfl rfl rfl) (fun _ _ _ _ h => h)
  have PO : PassesOwn (model P w) (cxOf (L2.CX P w) P w K mg base N_divided "divided" (defScope s_divided) f cdv A outer s H E).A (cxOf (L2.CX P w) P w K mg base N_divided "divided" (defScope s_divided) f cdv A outer s H E).env (cxOf (L2.CX P w) P w K mg base N_divided "divided" (defScope s_divided) f cdv A outer s H E).xe := passes_of rfl
  unfold m_divided b_divided
  exact (sndb_cons (snds_set (snde_pure [] snd_dnew) sc_divided.nd rfl loc_divided_counts)
  (sndb_cons (snds_for [0] PO rfl (sndi_seq (snd_var 0 rfl vis_divided_some)) (sndg_tp rfl (sndgs_cons sc_divided.nd rfl loc_divided_powers (sndgs_cons sc_divided.nd rfl loc_divided_number sndgs_nil))) (sndb_cons (snds_set (snde_pure [1, 3] (snd_b (call_min2 rfl) v_min2 gl_divided_min b_min bt_min (snda_cons (snd_ix ix_seq (v_ix _) (snd_var 3 rfl vis_divided_powers) (snd_var 1 rfl vis_divided_k)) (snda_cons (snd_ix ix_seq (v_ix _) (snd_var 3 rfl vis_divided_powers) (snd_bin op_addA (v_add _) (snd_var 1 rfl vis_divided_k) snd_int)) snda_nil)))) sc_divided.nd rfl loc_divided_low)
  (sndb_cons (snds_set (snde_pure [1, 3] (snd_b (call_max2 rfl) v_max2 gl_divided_max b_max bt_max (snda_cons (snd_ix ix_seq (v_ix _) (snd_var 3 rfl vis_divided_powers) (snd_var 1 rfl vis_divided_k)) (snda_cons (snd_ix ix_seq (v_ix _) (snd_var 3 rfl vis_divided_powers) (snd_bin op_addA (v_add _) (snd_var 1 rfl vis_divided_k) snd_int)) snda_nil)))) sc_divided.nd rfl loc_divided_high)
  (sndb_cons (snds_if (sndt_cmp op_lt v_lt (snd_ix ix_seq (v_ix _) (snd_var 3 rfl vis_divided_powers) (snd_var 1 rfl vis_divided_k)) (snd_ix ix_seq (v_ix _) (snd_var 3 rfl vis_divided_powers) (snd_bin op_addA (v_add _) (snd_var 1 rfl vis_divided_k) snd_int)) (nomark _)) (sndb_one (snds_set (snde_pure [4] (snd_bin op_sub v_sub snd_int (snd_var 4 rfl vis_divided_number))) sc_divided.nd rfl loc_divided_number)) sndb_nil)
  (sndb_one (snds_for [5, 6] PO rfl (sndi_range1 (snd_bin op_sub v_sub (snd_var 6 rfl vis_divided_high) (snd_var 5 rfl vis_divided_low)) gl_divided_range b_range) (sndg_nm sc_divided.nd rfl loc_divided_step) (sndb_cons (snds_set (snde_pure [1, 3, 5, 6, 7] (snd_bin op_addA (v_add _) (snd_bin op_addA (v_add _) (snd_slice (snd_var 3 rfl vis_divided_powers) sndo_none (sndo_some (snd_var 1 rfl vis_divided_k))) (snd_tup (snda_cons (snd_bin op_sub v_sub (snd_bin op_sub v_sub (snd_var 6 rfl vis_divided_high) snd_int) (snd_var 7 rfl vis_divided_step)) (snda_cons (snd_bin op_addA (v_add _) (snd_var 5 rfl vis_divided_low) (snd_var 7 rfl vis_divided_step)) snda_nil)))) (snd_slice (snd_var 3 rfl vis_divided_powers) (sndo_some (snd_bin op_addA (v_add _) (snd_var 1 rfl vis_divided_k) snd_int)) sndo_none))) sc_divided.nd rfl loc_divided_turned)
  (sndb_one (snds_setd (unA hr) rfl vis_divided_counts (snde_pure [2, 4, 8] (snd_bin op_addA (v_add _) (snd_dget (unA hr) (snd_var 2 rfl vis_divided_counts) (snd_var 8 rfl vis_divided_turned) snd_int) (snd_var 4 rfl vis_divided_number))) (snd_var 8 rfl vis_divided_turned))))))))))
  (sndb_one (snds_ret (snde_pure [2] (sndc c_gathered hr (by decide) PC gl_divided_gathered (snda_cons (snd_var 2 rfl vis_divided_counts) snda_nil))))))))
  (fun _ _ _ _ _ _ us hl => match us, hl with | [_, _], _ => rfl)

theorem ok_divided_by (D : Defd K mg "divided_by" s_divided_by) (b_reversed : mg "reversed" = none) (c_divided : Cal P w K mg base "divided" 2 ["some", "k"] (spF 2 mg (fnP 9 m_divided))) : Cal P w K mg base "divided_by" 3 ["some", "word"] (spO 2 mg (fnO 3 m_divided_by)) :=
  D.calO sc_divided_by rfl (by decide) (fun f cdv A outer s H E hr => by
  have PC : Passes (L2.CX P w) (cxOf (L2.CX P w) P w K mg base N_divided_by "divided_by" (defScope s_divided_by) f cdv A outer s H E) E := passes_call (takes_of rfl rfl rfl rfl) (fun _ _ _ _ h => h)
  have PO : PassesOwn (model P w) (cxOf (L2.CX P w) P w K mg base N_divided_by "divided_by" (defScope s_divided_by) f cdv A outer s H E).A (cxOf (L2.CX P w) P w K mg base N_divided_by "divided_by" (defScope s_divided_by) f cdv A outer s H E).env (cxOf (L2.CX P w) P w K mg base N_divided_by "divided_by" (defScope s_divided_by) f cdv A outer s H E).xe := passes_of rfl
  unfold m_divided_by b_divided_by
  exact (sndb_cons (snds_for [1] PO rfl (sndi_rev (snd_var 1 rfl vis_divided_by_word) gl_divided_by_reversed b_reversed) (sndg_nm sc_divided_by.nd rfl loc_divided_by_k) (sndb_one (snds_set (snde_pure [0, 2] (sndc c_divided hr (by decide) PC gl_divided_by_divided (snda_cons (snd_var 0 rfl vis_divided_by_some) (snda_cons (snd_var 2 rfl vis_divided_by_k) snda_nil)))) sc_divided_by.nd rfl loc_divided_by_some)))
  (sndb_one (snds_ret (snde_mv 0 rfl vis_divided_by_some)))))
  (fun _ _ _ _ _ _ us hl => match us, hl with | [_, _], _ => rfl)

theorem ok_stair (D : Defd K mg "stair" s_stair) (b_range : mg "range" = none) (b_tuple : mg "tuple" = none) : Cal P w K mg base "stair" 1 ["many"] (spF 1 mg (fnP 2 m_stair)) :=
  D.cal sc_stair rfl (by decide) (fun f cdv A outer s H E hr => by
  have PC : Passes (L2.CX P w) (cxOf (L2.CX P w) P w K mg base N_stair "stair" (defScope s_stair) f cdv A outer s H E) E := passes_call (takes_of rfl rfl rfl rfl) (fun _ _ _ _ h => h)
  have PO : PassesOwn (model P w) (cxOf (L2.CX P w) P w K mg base N_stair "stair" (defScope s_stair) f cdv A outer s H E).A (cxOf (L2.CX P w) P w K mg base N_stair "stair" (defScope s_stair) f cdv A outer s H E).env (cxOf (L2.CX P w) P w K mg base N_stair "stair" (defScope s_stair) f cdv A outer s H E).xe := passes_of rfl
  unfold m_stair
  exact (sndb_one (snds_ret (snde_pure [0] (snd_ty cr_tupOf (v_tupOf _) gl_stair_tuple b_tuple bt_tuple (snda_cons (snd_comp (own := [("place", 1)]) rfl sc_stair.nd (sndi_range1 (snd_var 0 rfl vis_stair_many) gl_stair_range b_range) (blk_of N_stair (defScope s_stair) (by decide +kernel)) (fun _ _ _ _ _ => (sndg_nm sc_stair.nd rfl (locL (by decide +kernel)) (hf := fnL (by decide +kernel)))) (fun _ _ _ _ _ => sndts_nil) (fun _ _ _ _ _ => (snd_bin op_sub v_sub (snd_bin op_sub v_sub (snd_var 0 rfl (visF (by decide +kernel))) snd_int) (snd_var 1 rfl (visL (by decide +kernel)))))) snda_nil))))))
  (fun _ _ _ _ _ _ us hl => match us, hl with | [_], _ => rfl)

theorem ok_sum_of (D : Defd K mg "sum_of" s_sum_of) (b_len : mg "len" = none) (b_range : mg "range" = none) (b_tuple : mg "tuple" = none) (c_least_by : Cal P w K mg base "least_by" 2 ["order"] (spF 1 mg (fnP 6 m_least_by))) (c_divided_by : Cal P w K mg base "divided_by" 3 ["some", "word"] (spO 2 mg (fnO 3 m_divided_by))) (c_stair : Cal P w K mg base "stair" 1 ["many"] (spF 1 mg (fnP 2 m_stair))) : Cal P w K mg base "sum_of" 4 ["order"] (spF 1 mg (fnP 4 m_sum_of)) :=
  D.cal sc_sum_of rfl (by decide) (fun f cdv A outer s H E hr => by
  have PC : Passes (L2.CX P w) (cxOf (L2.CX P w) P w K mg base N_sum_of "sum_of" (defScope s_sum_of) f cdv A outer s H E) E := passes_call (takes_of rfl rfl rfl rfl) (fun _ _ _ _ h => h)
  have PO : PassesOwn (model P w) (cxOf (L2.CX P w) P w K mg base N_sum_of "sum_of" (defScope s_sum_of) f cdv A outer s H E).A (cxOf (L2.CX P w) P w K mg base N_sum_of "sum_of" (defScope s_sum_of) f cdv A outer s H E).env (cxOf (L2.CX P w) P w K mg base N_sum_of "sum_of" (defScope s_sum_of) f cdv A outer s H E).xe := passes_of rfl
  unfold m_sum_of b_sum_of
  exact (sndb_cons (snds_set (snde_pure [0] (snd_b call_len (v_len _) gl_sum_of_len b_len bt_len (snda_cons (snd_var 0 rfl vis_sum_of_order) snda_nil))) sc_sum_of.nd rfl loc_sum_of_many)
  (sndb_cons (snds_set (snde_pure [0, 1] (snd_ty cr_tupOf (v_tupOf _) gl_sum_of_tuple b_tuple bt_tuple (snda_cons (snd_comp (own := [("place", 3)]) rfl sc_sum_of.nd (sndi_range1 (snd_var 1 rfl vis_sum_of_many) gl_sum_of_range b_range) (blk_of N_sum_of (defScope s_sum_of) (by decide +kernel)) (fun _ _ _ _ _ => (sndg_nm sc_sum_of.nd rfl (locL (by decide +kernel)) (hf := fnL (by decide +kernel)))) (fun _ _ _ _ _ => sndts_nil) (fun _ _ _ _ _ => (snd_tindex (snd_var 0 rfl (visF (by decide +kernel))) (snd_bin op_sub v_sub (snd_bin op_sub v_sub (snd_var 1 rfl (visF (by decide +kernel))) snd_int) (snd_var 3 rfl (visL (by decide +kernel))))))) snda_nil))) sc_sum_of.nd rfl loc_sum_of_undone)
  (sndb_one (snds_ret (snde_pure [1, 2] (sndcO c_divided_by hr (by decide) PC gl_sum_of_divided_by (sndaf_cons (snd_lst (snda_cons (snd_tup (snda_cons (sndc c_stair hr (by decide) PC gl_sum_of_stair (snda_cons (snd_var 1 rfl vis_sum_of_many) snda_nil)) (snda_cons snd_int snda_nil))) snda_nil)) (sndaf_cons (sndc c_least_by hr (by decide) PC gl_sum_of_least_by (snda_cons (snd_var 2 rfl vis_sum_of_undone) snda_nil)) sndaf_nil)))))))))
  (fun _ _ _ _ _ _ us hl => match us, hl with | [_], _ => rfl)

theorem ok_order_sum (D : Defd K mg "order_sum" s_order_sum) (c_look_at_order : Cal P w K mg base "look_at_order" 3 ["thing"] (spF 1 mg (fnP 1 m_look_at_order))) (c_sum_of : Cal P w K mg base "sum_of" 4 ["order"] (spF 1 mg (fnP 4 m_sum_of))) : Cal P w K mg base "order_sum" 5 ["order"] (spF 1 mg (fnP 1 m_order_sum)) :=
  D.cal sc_order_sum rfl (by decide) (fun f cdv A outer s H E hr => by
  have PC : Passes (L2.CX P w) (cxOf (L2.CX P w) P w K mg base N_order_sum "order_sum" (defScope s_order_sum) f cdv A outer s H E) E := passes_call (takes_of rfl rfl rfl rfl) (fun _ _ _ _ h => h)
  have PO : PassesOwn (model P w) (cxOf (L2.CX P w) P w K mg base N_order_sum "order_sum" (defScope s_order_sum) f cdv A outer s H E).A (cxOf (L2.CX P w) P w K mg base N_order_sum "order_sum" (defScope s_order_sum) f cdv A outer s H E).env (cxOf (L2.CX P w) P w K mg base N_order_sum "order_sum" (defScope s_order_sum) f cdv A outer s H E).xe := passes_of rfl
  unfold m_order_sum b_order_sum
  exact (sndb_cons (snds_expr (snde_pure [0] (sndc c_look_at_order hr (by decide) PC gl_order_sum_look_at_order (snda_cons (snd_var 0 rfl vis_order_sum_order) snda_nil))))
  (sndb_one (snds_ret (snde_pure [0] (sndc c_sum_of hr (by decide) PC gl_order_sum_sum_of (snda_cons (snd_var 0 rfl vis_order_sum_order) snda_nil)))))))
  (fun _ _ _ _ _ _ us hl => match us, hl with | [_], _ => rfl)

theorem ok__law_mixed (D : Defd K mg "_law_mixed" s__law_mixed)  : Cal P w K mg base "_law_mixed" 1 ["_law_cell_here", "_law_k"] (spF 2 mg (fnP 3 m__law_mixed)) :=
  D.cal sc__law_mixed rfl (by decide) (fun f cdv A outer s H E hr => by
  have PC : Passes (L2.CX P w) (cxOf (L2.CX P w) P w K mg base N__law_mixed "_law_mixed" (defScope s__law_mixed) f cdv A outer s H E) E := passes_call (takes_of rfl rfl rfl rfl) (fun _ _ _ _ h => h)
  have PO : PassesOwn (model P w) (cxOf (L2.CX P w) P w K mg base N__law_mixed "_law_mixed" (defScope s__law_mixed) f cdv A outer s H E).A (cxOf (L2.CX P w) P w K mg base N__law_mixed "_law_mixed" (defScope s__law_mixed) f cdv A outer s H E).env (cxOf (L2.CX P w) P w K mg base N__law_mixed "_law_mixed" (defScope s__law_mixed) f cdv A outer s H E).xe := passes_of rfl
  unfold m__law_mixed
  exact (sndb_cons (snds_set (snde_pure [0, 1] (snd_bin op_mod v_mod (snd_bin op_addA (v_add _) (snd_bin op_addA (v_add _) (snd_bin op_mulA v_mul (snd_bin op_mod v_mod (snd_var 0 rfl vis__law_mixed__law_cell_here) snd_int) snd_int) (snd_bin op_mulA v_mul (snd_var 1 rfl vis__law_mixed__law_k) snd_int)) snd_int) snd_int)) sc__law_mixed.nd rfl loc__law_mixed__law_number)
  (sndb_cons (snds_set (snde_pure [2] (snd_bin op_mod v_mod (snd_bin op_mulA v_mul (snd_var 2 rfl vis__law_mixed__law_number) (snd_var 2 rfl vis__law_mixed__law_number)) snd_int)) sc__law_mixed.nd rfl loc__law_mixed__law_number)
  (sndb_one (snds_ret (snde_pure [2] (snd_bin op_mod v_mod (snd_bin op_mulA v_mul (snd_var 2 rfl vis__law_mixed__law_number) (snd_bin op_addA (v_add _) (snd_var 2 rfl vis__law_mixed__law_number) snd_int)) snd_int)))))))
  (fun _ _ _ _ _ _ us hl => match us, hl with | [_, _], _ => rfl)

theorem ok__law_cell (D : Defd K mg "_law_cell" s__law_cell) (b_len : mg "len" = none) (b_range : mg "range" = none) (c__law_mixed : Cal P w K mg base "_law_mixed" 1 ["_law_cell_here", "_law_k"] (spF 2 mg (fnP 3 m__law_mixed))) : Cal P w K mg base "_law_cell" 2 ["_law_script", "_law_k"] (spF 2 mg (fnP 5 m__law_cell)) :=
  D.cal sc__law_cell rfl (by decide) (fun f cdv A outer s H E hr => by
  have PC : Passes (L2.CX P w) (cxOf (L2.CX P w) P w K mg base N__law_cell "_law_cell" (defScope s__law_cell) f cdv A outer s H E) E := passes_call (takes_of rfl rfl rfl rfl) (fun _ _ _ _ h => h)
  have PO : PassesOwn (model P w) (cxOf (L2.CX P w) P w K mg base N__law_cell "_law_cell" (defScope s__law_cell) f cdv A outer s H E).A (cxOf (L2.CX P w) P w K mg base N__law_cell "_law_cell" (defScope s__law_cell) f cdv A outer s H E).env (cxOf (L2.CX P w) P w K mg base N__law_cell "_law_cell" (defScope s__law_cell) f cdv A outer s H E).xe := passes_of rfl
  unfold m__law_cell b__law_cell
  exact (sndb_cons (snds_set (snde_pure [] snd_int) sc__law_cell.nd rfl loc__law_cell__law_cell_here)
  (sndb_cons (snds_if (sndt_cmp op_lt v_lt (snd_var 1 rfl vis__law_cell__law_k) (snd_b call_len (v_len _) gl__law_cell_len b_len bt_len (snda_cons (snd_var 0 rfl vis__law_cell__law_script) snda_nil)) (nomark _)) (sndb_one (snds_set (snde_pure [0, 1] (snd_ix ix_seq (v_ix _) (snd_var 0 rfl vis__law_cell__law_script) (snd_var 1 rfl vis__law_cell__law_k))) sc__law_cell.nd rfl loc__law_cell__law_cell_here)) sndb_nil)
  (sndb_cons (snds_if (sndt_cmp op_ge v_ge (snd_var 2 rfl vis__law_cell__law_cell_here) (snd_bin op_pow v_pow snd_int snd_int) (nomark _)) (sndb_one (snds_ret (snde_pure [2] (snd_bin op_mod v_mod (snd_bin op_sub v_sub (snd_var 2 rfl vis__law_cell__law_cell_here) (snd_bin op_pow v_pow snd_int snd_int)) (snd_bin op_mulA v_mul (snd_bin op_mulA v_mul (snd_bin op_mulA v_mul (snd_bin op_pow v_pow snd_int snd_int) (snd_bin op_pow v_pow snd_int snd_int)) (snd_bin op_pow v_pow snd_int snd_int)) (snd_bin op_pow v_pow snd_int snd_int)))))) sndb_nil)
  (sndb_cons (snds_set (snde_pure [] snd_int) sc__law_cell.nd rfl loc__law_cell__law_found)
  (sndb_cons (snds_for [] PO rfl (sndi_range1 snd_int gl__law_cell_range b_range) (sndg_nm sc__law_cell.nd rfl loc__law_cell__law_j) (sndb_one (snds_set (snde_pure [1, 2, 3, 4] (snd_bin op_addA (v_add _) (snd_bin op_mulA v_mul (snd_var 3 rfl vis__law_cell__law_found) snd_int) (sndc c__law_mixed hr (by decide) PC gl__law_cell__law_mixed (snda_cons (snd_var 2 rfl vis__law_cell__law_cell_here) (snda_cons (snd_bin op_addA (v_add _) (snd_bin op_addA (v_add _) (snd_bin op_mulA v_mul snd_int (snd_var 1 rfl vis__law_cell__law_k)) (snd_bin op_mulA v_mul snd_int (snd_var 4 rfl vis__law_cell__law_j))) (snd_bin op_mulA v_mul (snd_var 4 rfl vis__law_cell__law_j) (snd_var 4 rfl vis__law_cell__law_j))) snda_nil))))) sc__law_cell.nd rfl loc__law_cell__law_found)))
  (sndb_one (snds_ret (snde_mv 3 rfl vis__law_cell__law_found)))))))))
  (fun _ _ _ _ _ _ us hl => match us, hl with | [_, _], _ => rfl)

theorem ok__law_take (D : Defd K mg "_law_take" s__law_take)  : Cal P w K mg base "_law_take" 1 ["_law_pile", "_law_size"] (spR 2 0 mg (fnR 3 0 m__law_take)) :=
  D.calR 0 sc__law_take rfl (by decide) (fun f cdv A outer s H E hr => by
  have PC : Passes (L2.CX P w) (cxOf (L2.CX P w) P w K mg base N__law_take "_law_take" (defScope s__law_take) f cdv A outer s H E) E := passes_call (takes_of rfl rfl rfl rfl) (fun _ _ _ _ h => h)
  have PO : PassesOwn (model P w) (cxOf (L2.CX P w) P w K mg base N__law_take "_law_take" (defScope s__law_take) f cdv A outer s H E).A (cxOf (L2.CX P w) P w K mg base N__law_take "_law_take" (defScope s__law_take) f cdv A outer s H E).env (cxOf (L2.CX P w) P w K mg base N__law_take "_law_take" (defScope s__law_take) f cdv A outer s H E).xe := passes_of rfl
  unfold m__law_take
  exact (sndb_cons (snds_set (snde_pure [0, 1] (snd_bin op_mod v_mod (snd_ix ix_seq (v_ix _) (snd_var 0 rfl vis__law_take__law_pile) snd_int) (snd_var 1 rfl vis__law_take__law_size))) sc__law_take.nd rfl loc__law_take__law_digit)
  (sndb_cons (snds_seti rfl vis__law_take__law_pile (snde_pure [0, 1] (snd_bin op_fdivW v_div (snd_ix ix_seq (v_ix _) (snd_var 0 rfl vis__law_take__law_pile) snd_int) (snd_var 1 rfl vis__law_take__law_size))) snd_int)
  (sndb_one (snds_ret (snde_mv 2 rfl vis__law_take__law_digit))))))
  (fun _ _ _ _ _ _ us hl => match us, hl with | [_, _], _ => rfl)

theorem ok__law_order (D : Defd K mg "_law_order" s__law_order) (b_list : mg "list" = none) (b_range : mg "range" = none) (b_tuple : mg "tuple" = none) (c__law_take : Cal P w K mg base "_law_take" 1 ["_law_pile", "_law_size"] (spR 2 0 mg (fnR 3 0 m__law_take))) : Cal P w K mg base "_law_order" 2 ["_law_pile", "_law_many"] (spR 2 0 mg (fnR 5 0 m__law_order)) :=
  D.calR 0 sc__law_order rfl (by decide) (fun f cdv A outer s H E hr => by
  have PC : Passes (L2.CX P w) (cxOf (L2.CX P w) P w K mg base N__law_order "_law_order" (defScope s__law_order) f cdv A outer s H E) E := passes_call (takes_of rfl rfl rfl rfl) (fun _ _ _ _ h => h)
  have PO : PassesOwn (model P w) (cxOf (L2.CX P w) P w K mg base N__law_order "_law_order" (defScope s__law_order) f cdv A outer s H E).A (cxOf (L2.CX P w) P w K mg base N__law_order "_law_order" (defScope s__law_order) f cdv A outer s H E).env (cxOf (L2.CX P w) P w K mg base N__law_order "_law_order" (defScope s__law_order) f cdv A outer s H E).xe := passes_of rfl
  unfold m__law_order b__law_order
  exact (sndb_cons (snds_set (snde_pure [1] (snd_lstRg rfl (sndr_1 (snd_var 1 rfl vis__law_order__law_many) gl__law_order_range b_range) gl__law_order_list b_list)) sc__law_order.nd rfl loc__law_order__law_left)
  (sndb_cons (snds_set (snde_pure [] (snd_lst snda_nil)) sc__law_order.nd rfl loc__law_order__law_found)
  (sndb_cons (snds_for [1] PO rfl (sndi_range1 (snd_var 1 rfl vis__law_order__law_many) gl__law_order_range b_range) (sndg_nm sc__law_order.nd rfl loc__law_order__law_place) (sndb_one (snds_expr (snde_append rfl vis__law_order__law_found (snde_pop rfl vis__law_order__law_left (sndeR (i := 0) c__law_take hr (by decide) PC gl__law_order__law_take (sndag_vr 0 rfl vis__law_order__law_pile (sndag_ex (snde_pure [1, 4] (snd_bin op_sub v_sub (snd_var 1 rfl vis__law_order__law_many) (snd_var 4 rfl vis__law_order__law_place))) sndag_nil))))))))
  (sndb_one (snds_ret (snde_pure [3] (snd_ty cr_tupOf (v_tupOf _) gl__law_order_tuple b_tuple bt_tuple (snda_cons (snd_var 3 rfl vis__law_order__law_found) snda_nil)))))))))
  (fun _ _ _ _ _ _ us hl => match us, hl with | [_, _], _ => rfl)

theorem ok__law_swapped (D : Defd K mg "_law_swapped" s__law_swapped) (b_list : mg "list" = none) (b_tuple : mg "tuple" = none) : Cal P w K mg base "_law_swapped" 1 ["_law_order_here", "_law_i", "_law_j"] (spF 3 mg (fnP 4 m__law_swapped)) :=
  D.cal sc__law_swapped rfl (by decide) (fun f cdv A outer s H E hr => by
  have PC : Passes (L2.CX P w) (cxOf (L2.CX P w) P w K mg base N__law_swapped "_law_swapped" (defScope s__law_swapped) f cdv A outer s H E) E := passes_call (takes_of rfl rfl rfl rfl) (fun _ _ _ _ h => h)
  have PO : PassesOwn (model P w) (cxOf (L2.CX P w) P w K mg base N__law_swapped "_law_swapped" (defScope s__law_swapped) f cdv A outer s H E).A (cxOf (L2.CX P w) P w K mg base N__law_swapped "_law_swapped" (defScope s__law_swapped) f cdv A outer s H E).env (cxOf (L2.CX P w) P w K mg base N__law_swapped "_law_swapped" (defScope s__law_swapped) f cdv A outer s H E).xe := passes_of rfl
  unfold m__law_swapped
  exact (sndb_cons (snds_set (snde_pure [0] (snd_ty call_list_of (v_listOf _) gl__law_swapped_list b_list bt_list (snda_cons (snd_var 0 rfl vis__law_swapped__law_order_here) snda_nil))) sc__law_swapped.nd rfl loc__law_swapped__law_found)
  (sndb_cons (snds_seti rfl vis__law_swapped__law_found (snde_pure [0, 2] (snd_ix ix_seq (v_ix _) (snd_var 0 rfl vis__law_swapped__law_order_here) (snd_var 2 rfl vis__law_swapped__law_j))) (snd_var 1 rfl vis__law_swapped__law_i))
  (sndb_cons (snds_seti rfl vis__law_swapped__law_found (snde_pure [0, 1] (snd_ix ix_seq (v_ix _) (snd_var 0 rfl vis__law_swapped__law_order_here) (snd_var 1 rfl vis__law_swapped__law_i))) (snd_var 2 rfl vis__law_swapped__law_j))
  (sndb_one (snds_ret (snde_pure [3] (snd_ty cr_tupOf (v_tupOf _) gl__law_swapped_tuple b_tuple bt_tuple (snda_cons (snd_var 3 rfl vis__law_swapped__law_found) snda_nil)))))))))
  (fun _ _ _ _ _ _ us hl => match us, hl with | [_, _, _], _ => rfl)

theorem ok__law_gathered (D : Defd K mg "_law_gathered" s__law_gathered) (b_sorted : mg "sorted" = none) : Cal P w K mg base "_law_gathered" 1 ["_law_counts"] (spF 1 mg (fnP 3 m__law_gathered)) :=
  D.cal sc__law_gathered rfl (by decide) (fun f cdv A outer s H E hr => by
  have PC : Passes (L2.CX P w) (cxOf (L2.CX P w) P w K mg base N__law_gathered "_law_gathered" (defScope s__law_gathered) f cdv A outer s H E) E := passes_call (takes_of rfl rfl rfl rfl) (fun _ _ _ _ h => h)
  have PO : PassesOwn (model P w) (cxOf (L2.CX P w) P w K mg base N__law_gathered "_law_gathered" (defScope s__law_gathered) f cdv A outer s H E).A (cxOf (L2.CX P w) P w K mg base N__law_gathered "_law_gathered" (defScope s__law_gathered) f cdv A outer s H E).env (cxOf (L2.CX P w) P w K mg base N__law_gathered "_law_gathered" (defScope s__law_gathered) f cdv A outer s H E).xe := passes_of rfl
  unfold m__law_gathered
  exact (sndb_one (snds_ret (snde_pure [0] (snd_sortV hr.units gl__law_gathered_sorted b_sorted (snda_cons (snd_comp (own := [("_law_powers", 1), ("_law_number", 2)]) rfl sc__law_gathered.nd (sndi_items (snd_var 0 rfl vis__law_gathered__law_counts)) (blk_of N__law_gathered (defScope s__law_gathered) (by decide +kernel)) (fun _ _ _ _ _ => (sndg_tp rfl (sndgs_cons sc__law_gathered.nd rfl (locL (by decide +kernel)) (sndgs_cons sc__law_gathered.nd rfl (locL (by decide +kernel)) sndgs_nil (hf := fnL (by decide +kernel))) (hf := fnL (by decide +kernel))))) (fun _ _ _ _ _ => (sndts_one (sndt_cmp (op_neD hr.units) (v_ne _) (snd_var 2 rfl (visL (by decide +kernel))) snd_int (nomark _)))) (fun _ _ _ _ _ => (snd_tup (snda_cons (snd_var 1 rfl (visL (by decide +kernel))) (snda_cons (snd_var 2 rfl (visL (by decide +kernel))) snda_nil))))) snda_nil))))))
  (fun _ _ _ _ _ _ us hl => match us, hl with | [_], _ => rfl)

theorem ok__law_whole (D : Defd K mg "_law_whole" s__law_whole) (b_bool : mg "bool" = none) (b_int : mg "int" = none) (b_isinstance : mg "isinstance" = none) : Cal P w K mg base "_law_whole" 1 ["_law_found"] (spF 1 mg (fnP 1 m__law_whole)) :=
  D.cal sc__law_whole rfl (by decide) (fun f cdv A outer s H E hr => by
  have PC : Passes (L2.CX P w) (cxOf (L2.CX P w) P w K mg base N__law_whole "_law_whole" (defScope s__law_whole) f cdv A outer s H E) E := passes_call (takes_of rfl rfl rfl rfl) (fun _ _ _ _ h => h)
  have PO : PassesOwn (model P w) (cxOf (L2.CX P w) P w K mg base N__law_whole "_law_whole" (defScope s__law_whole) f cdv A outer s H E).A (cxOf (L2.CX P w) P w K mg base N__law_whole "_law_whole" (defScope s__law_whole) f cdv A outer s H E).env (cxOf (L2.CX P w) P w K mg base N__law_whole "_law_whole" (defScope s__law_whole) f cdv A outer s H E).xe := passes_of rfl
  unfold m__law_whole
  exact (sndb_one (snds_ret (snde_pure [0] (snd_and (snd_isT (snd_var 0 rfl vis__law_whole__law_found) gl__law_whole_isinstance b_isinstance gl__law_whole_int b_int bt_int) (snd_one (snd_not (snd_isT (snd_var 0 rfl vis__law_whole__law_found) gl__law_whole_isinstance b_isinstance gl__law_whole_bool b_bool bt_bool))))))))
  (fun _ _ _ _ _ _ us hl => match us, hl with | [_], _ => rfl)

theorem ok__law_is_poly (D : Defd K mg "_law_is_poly" s__law_is_poly) (b_all : mg "all" = none) (b_isinstance : mg "isinstance" = none) (b_len : mg "len" = none) (b_list : mg "list" = none) (b_range : mg "range" = none) (b_tuple : mg "tuple" = none) (c__law_whole : Cal P w K mg base "_law_whole" 1 ["_law_found"] (spF 1 mg (fnP 1 m__law_whole))) : Cal P w K mg base "_law_is_poly" 2 ["_law_found", "_law_many"] (spF 2 mg (fnP 5 m__law_is_poly)) :=
  D.cal sc__law_is_poly rfl (by decide) (fun f cdv A outer s H E hr => by
  have PC : Passes (L2.CX P w) (cxOf (L2.CX P w) P w K mg base N__law_is_poly "_law_is_poly" (defScope s__law_is_poly) f cdv A outer s H E) E := passes_call (takes_of rfl rfl rfl rfl) (fun _ _ _ _ h => h)
  have PO : PassesOwn (model P w) (cxOf (L2.CX P w) P w K mg base N__law_is_poly "_law_is_poly" (defScope s__law_is_poly) f cdv A outer s H E).A (cxOf (L2.CX P w) P w K mg base N__law_is_poly "_law_is_poly" (defScope s__law_is_poly) f cdv A outer s H E).env (cxOf (L2.CX P w) P w K mg base N__law_is_poly "_law_is_poly" (defScope s__law_is_poly) f cdv A outer s H E).xe := passes_of rfl
  unfold m__law_is_poly b__law_is_poly
  exact (sndb_cons (snds_if (sndt_not (sndt_val (snd_isT (snd_var 0 rfl vis__law_is_poly__law_found) gl__law_is_poly_isinstance b_isinstance gl__law_is_poly_list b_list bt_list))) (sndb_one (snds_ret (snde_pure [] snd_bl))) sndb_nil)
  (sndb_cons (snds_for [0] PO rfl (sndi_seq (snd_var 0 rfl vis__law_is_poly__law_found)) (sndg_nm sc__law_is_poly.nd rfl loc__law_is_poly__law_one) (sndb_cons (snds_if (SndW.t (sndw_or (sndt_not (sndt_val (snd_isT (snd_var 2 rfl vis__law_is_poly__law_one) gl__law_is_poly_isinstance b_isinstance gl__law_is_poly_tuple b_tuple bt_tuple))) (sndw_or (sndt_cmp (op_neD hr.units) (v_ne _) (snd_b call_len (v_len _) gl__law_is_poly_len b_len bt_len (snda_cons (snd_var 2 rfl vis__law_is_poly__law_one) snda_nil)) snd_int (nomark _)) (sndw_or (sndt_not (sndt_val (snd_isT (snd_ix ix_seq (v_ix _) (snd_var 2 rfl vis__law_is_poly__law_one) snd_int) gl__law_is_poly_isinstance b_isinstance gl__law_is_poly_tuple b_tuple bt_tuple))) (sndw_or1 (sndt_cmp (op_neD hr.units) (v_ne _) (snd_b call_len (v_len _) gl__law_is_poly_len b_len bt_len (snda_cons (snd_ix ix_seq (v_ix _) (snd_var 2 rfl vis__law_is_poly__law_one) snd_int) snda_nil)) (snd_var 1 rfl vis__law_is_poly__law_many) (nomark _))))))) (sndb_one (snds_ret (snde_pure [] snd_bl))) sndb_nil)
  (sndb_one (snds_if (SndW.t (sndw_or (sndt_not (sndt_val (snd_b (cr_all rfl) (v_all _) gl__law_is_poly_all b_all bt_all (snda_cons (snd_comp (own := [("_law_power", 3)]) rfl sc__law_is_poly.nd (sndi_seq (snd_ix ix_seq (v_ix _) (snd_var 2 rfl vis__law_is_poly__law_one) snd_int)) (blk_of N__law_is_poly (defScope s__law_is_poly) (by decide +kernel)) (fun _ _ _ _ _ => (sndg_nm sc__law_is_poly.nd rfl (locL (by decide +kernel)) (hf := fnL (by decide +kernel)))) (fun _ _ _ _ _ => sndts_nil) (fun _ _ _ _ _ => (snd_and (sndc c__law_whole hr (by decide) passL (glB (by decide +kernel)) (snda_cons (snd_var 3 rfl (visL (by decide +kernel))) snda_nil)) (snd_one (snd_cmp op_ge v_ge (snd_var 3 rfl (visL (by decide +kernel))) snd_int (nomark _)))))) snda_nil)))) (sndw_or (sndt_not (sndt_val (sndc c__law_whole hr (by decide) PC gl__law_is_poly__law_whole (snda_cons (snd_ix ix_seq (v_ix _) (snd_var 2 rfl vis__law_is_poly__law_one) snd_int) snda_nil)))) (sndw_or1 (sndt_cmp (op_eqD hr.units) (v_eq _) (snd_ix ix_seq (v_ix _) (snd_var 2 rfl vis__law_is_poly__law_one) snd_int) snd_int (nomark _)))))) (sndb_one (snds_ret (snde_pure [] snd_bl))) sndb_nil))))
  (sndb_one (snds_ret (snde_pure [0] (snd_b (cr_all rfl) (v_all _) gl__law_is_poly_all b_all bt_all (snda_cons (snd_comp (own := [("_law_k", 4)]) rfl sc__law_is_poly.nd (sndi_range1 (snd_bin op_sub v_sub (snd_b call_len (v_len _) gl__law_is_poly_len b_len bt_len (snda_cons (snd_var 0 rfl vis__law_is_poly__law_found) snda_nil)) snd_int) gl__law_is_poly_range b_range) (blk_of N__law_is_poly (defScope s__law_is_poly) (by decide +kernel)) (fun _ _ _ _ _ => (sndg_nm sc__law_is_poly.nd rfl (locL (by decide +kernel)) (hf := fnL (by decide +kernel)))) (fun _ _ _ _ _ => sndts_nil) (fun _ _ _ _ _ => (snd_cmp (op_gtX hr.units) (v_gtX _) (snd_ix ix_seq (v_ix _) (snd_ix ix_seq (v_ix _) (snd_var 0 rfl (visF (by decide +kernel))) (snd_var 4 rfl (visL (by decide +kernel)))) snd_int) (snd_ix ix_seq (v_ix _) (snd_ix ix_seq (v_ix _) (snd_var 0 rfl (visF (by decide +kernel))) (snd_bin op_addA (v_add _) (snd_var 4 rfl (visL (by decide +kernel))) snd_int)) snd_int) (nomark _)))) snda_nil))))))))
  (fun _ _ _ _ _ _ us hl => match us, hl with | [_, _], _ => rfl)

theorem ok__law_table (D : Defd K mg "_law_table" s__law_table) (b_range : mg "range" = none) (b_reversed : mg "reversed" = none) (b_sorted : mg "sorted" = none) (b_tuple : mg "tuple" = none) (c__law_swapped : Cal P w K mg base "_law_swapped" 1 ["_law_order_here", "_law_i", "_law_j"] (spF 3 mg (fnP 4 m__law_swapped))) : Cal P w K mg base "_law_table" 2 ["_law_many"] (spF 1 mg (fnP 8 m__law_table)) :=
  D.cal sc__law_table rfl (by decide) (fun f cdv A outer s H E hr => by
  have PC : Passes (L2.CX P w) (cxOf (L2.CX P w) P w K mg base N__law_table "_law_table" (defScope s__law_table) f cdv A outer s H E) E := passes_call (takes_of rfl rfl rfl rfl) (fun _ _ _ _ h => h)
  have PO : PassesOwn (model P w) (cxOf (L2.CX P w) P w K mg base N__law_table "_law_table" (defScope s__law_table) f cdv A outer s H E).A (cxOf (L2.CX P w) P w K mg base N__law_table "_law_table" (defScope s__law_table) f cdv A outer s H E).env (cxOf (L2.CX P w) P w K mg base N__law_table "_law_table" (defScope s__law_table) f cdv A outer s H E).xe := passes_of rfl
  unfold m__law_table b__law_table
  exact (sndb_cons (snds_set (snde_pure [] snd_dnew) sc__law_table.nd rfl loc__law_table__law_found)
  (sndb_cons (snds_set (snde_pure [0] (snd_lst (snda_cons (snd_tup (snda_cons (snd_lst snda_nil) (snda_cons (snd_tupRg rfl (sndr_1 (snd_var 0 rfl vis__law_table__law_many) gl__law_table_range b_range) gl__law_table_tuple b_tuple) snda_nil))) snda_nil))) sc__law_table.nd rfl loc__law_table__law_rows)
  (sndb_cons (snds_for [0] PO rfl (sndi_range1 (snd_bin op_sub v_sub (snd_var 0 rfl vis__law_table__law_many) snd_int) gl__law_table_range b_range) (sndg_nm sc__law_table.nd rfl loc__law_table__law_i) (sndb_one (snds_for [0, 3] PO rfl (sndi_revR (sndr_1 (snd_bin op_sub v_sub (snd_bin op_sub v_sub (snd_var 0 rfl vis__law_table__law_many) snd_int) (snd_var 3 rfl vis__law_table__law_i)) gl__law_table_range b_range) gl__law_table_reversed b_reversed) (sndg_nm sc__law_table.nd rfl loc__law_table__law_j) (sndb_cons (snds_set (snde_pure [] (snd_lst snda_nil)) sc__law_table.nd rfl loc__law_table__law_more)
  (sndb_cons (snds_for [2] PO rfl (sndi_seq (snd_var 2 rfl vis__law_table__law_rows)) (sndg_tp rfl (sndgs_cons sc__law_table.nd rfl loc__law_table__law_drawing (sndgs_cons sc__law_table.nd rfl loc__law_table__law_order_here sndgs_nil))) (sndb_one (snds_if (sndt_cmp op_lt v_lt (snd_ix ix_seq (v_ix _) (snd_var 7 rfl vis__law_table__law_order_here) (snd_bin op_addA (v_add _) (snd_var 3 rfl vis__law_table__law_i) (snd_var 4 rfl vis__law_table__law_j))) (snd_ix ix_seq (v_ix _) (snd_var 7 rfl vis__law_table__law_order_here) (snd_bin op_addA (v_add _) (snd_bin op_addA (v_add _) (snd_var 3 rfl vis__law_table__law_i) (snd_var 4 rfl vis__law_table__law_j)) snd_int)) (nomark _)) (sndb_one (snds_expr (snde_append rfl vis__law_table__law_more (snde_pure [3, 4, 6, 7] (snd_tup (snda_cons (snd_bin op_addA (v_add _) (snd_var 6 rfl vis__law_table__law_drawing) (snd_lst (snda_cons (snd_tup (snda_cons (snd_var 3 rfl vis__law_table__law_i) (snda_cons (snd_var 4 rfl vis__law_table__law_j) snda_nil))) snda_nil))) (snda_cons (sndc c__law_swapped hr (by decide) PC gl__law_table__law_swapped (snda_cons (snd_var 7 rfl vis__law_table__law_order_here) (snda_cons (snd_bin op_addA (v_add _) (snd_var 3 rfl vis__law_table__law_i) (snd_var 4 rfl vis__law_table__law_j)) (snda_cons (snd_bin op_addA (v_add _) (snd_bin op_addA (v_add _) (snd_var 3 rfl vis__law_table__law_i) (snd_var 4 rfl vis__law_table__law_j)) snd_int) snda_nil)))) snda_nil))))))) sndb_nil)))
  (sndb_one (snds_set (snde_pure [2, 5] (snd_bin op_addA (v_add _) (snd_var 2 rfl vis__law_table__law_rows) (snd_var 5 rfl vis__law_table__law_more))) sc__law_table.nd rfl loc__law_table__law_rows)))))))
  (sndb_cons (snds_for [2] PO rfl (sndi_seq (snd_var 2 rfl vis__law_table__law_rows)) (sndg_tp rfl (sndgs_cons sc__law_table.nd rfl loc__law_table__law_drawing (sndgs_cons sc__law_table.nd rfl loc__law_table__law_order_here sndgs_nil))) (sndb_one (snds_setdApp (unA hr) rfl vis__law_table__law_found (snd_var 7 rfl vis__law_table__law_order_here) (snd_lst snda_nil) (snd_lst (snda_cons (snd_b (cr_sortG hr.units) (v_sortR _ false) gl__law_table_sorted b_sorted bt_sorted (snda_cons (snd_var 6 rfl vis__law_table__law_drawing) snda_nil)) snda_nil)) (snd_var 7 rfl vis__law_table__law_order_here))))
  (sndb_one (snds_ret (snde_mv 1 rfl vis__law_table__law_found))))))))
  (fun _ _ _ _ _ _ us hl => match us, hl with | [_], _ => rfl)

theorem ok__law_terms (D : Defd K mg "_law_terms" s__law_terms) (b_len : mg "len" = none) (b_range : mg "range" = none) (b_tuple : mg "tuple" = none) : Cal P w K mg base "_law_terms" 1 ["_law_many", "_law_drawing"] (spF 2 mg (fnP 4 m__law_terms)) :=
  D.cal sc__law_terms rfl (by decide) (fun f cdv A outer s H E hr => by
  have PC : Passes (L2.CX P w) (cxOf (L2.CX P w) P w K mg base N__law_terms "_law_terms" (defScope s__law_terms) f cdv A outer s H E) E := passes_call (takes_of rfl rfl rfl rfl) (fun _ _ _ _ h => h)
  have PO : PassesOwn (model P w) (cxOf (L2.CX P w) P w K mg base N__law_terms "_law_terms" (defScope s__law_terms) f cdv A outer s H E).A (cxOf (L2.CX P w) P w K mg base N__law_terms "_law_terms" (defScope s__law_terms) f cdv A outer s H E).env (cxOf (L2.CX P w) P w K mg base N__law_terms "_law_terms" (defScope s__law_terms) f cdv A outer s H E).xe := passes_of rfl
  unfold m__law_terms
  exact (sndb_one (snds_ret (snde_pure [0, 1] (snd_ty cr_tupOf (v_tupOf _) gl__law_terms_tuple b_tuple bt_tuple (snda_cons (snd_comp (own := [("_law_row", 2)]) rfl sc__law_terms.nd (sndi_range1 (snd_var 0 rfl vis__law_terms__law_many) gl__law_terms_range b_range) (blk_of N__law_terms (defScope s__law_terms) (by decide +kernel)) (fun _ _ _ _ _ => (sndg_nm sc__law_terms.nd rfl (locC (by decide +kernel)) (hf := fnC (by decide +kernel)))) (fun _ _ _ _ _ => sndts_nil) (fun _ _ _ _ _ => (snd_b call_len (v_len _) (glB (by decide +kernel)) b_len bt_len (snda_cons (snd_comp (own := [("_law_one", 3)]) rfl sc__law_terms.nd (sndi_seq (snd_var 1 rfl (visF (by decide +kernel)))) (blk_of _ _ (by rfl)) (fun _ _ _ _ _ => (sndg_nm sc__law_terms.nd rfl (locL (by decide +kernel)) (hf := fnL (by decide +kernel)))) (fun _ _ _ _ _ => (sndts_one (sndt_cmp (op_eqD hr.units) (v_eq _) (snd_ix ix_seq (v_ix _) (snd_var 3 rfl (visL (by decide +kernel))) snd_int) (snd_var 2 rfl (visF (by decide +kernel))) (nomark _)))) (fun _ _ _ _ _ => (snd_var 3 rfl (visL (by decide +kernel))))) snda_nil)))) snda_nil))))))
  (fun _ _ _ _ _ _ us hl => match us, hl with | [_, _], _ => rfl)

theorem ok__law_sum_of (D : Defd K mg "_law_sum_of" s__law_sum_of) (c__law_gathered : Cal P w K mg base "_law_gathered" 1 ["_law_counts"] (spF 1 mg (fnP 3 m__law_gathered))) (c__law_terms : Cal P w K mg base "_law_terms" 1 ["_law_many", "_law_drawing"] (spF 2 mg (fnP 4 m__law_terms))) : Cal P w K mg base "_law_sum_of" 2 ["_law_many", "_law_rows"] (spF 2 mg (fnP 5 m__law_sum_of)) :=
  D.cal sc__law_sum_of rfl (by decide) (fun f cdv A outer s H E hr => by
  have PC : Passes (L2.CX P w) (cxOf (L2.CX P w) P w K mg base N__law_sum_of "_law_sum_of" (defScope s__law_sum_of) f cdv A outer s H E) E := passes_call (takes_of rfl rfl rfl rfl) (fun _ _ _ _ h => h)
  have PO : PassesOwn (model P w) (cxOf (L2.CX P w) P w K mg base N__law_sum_of "_law_sum_of" (defScope s__law_sum_of) f cdv A outer s H E).A (cxOf (L2.CX P w) P w K mg base N__law_sum_of "_law_sum_of" (defScope s__law_sum_of) f cdv A outer s H E).env (cxOf (L2.CX P w) P w K mg base N__law_sum_of "_law_sum_of" (defScope s__law_sum_of) f cdv A outer s H E).xe := passes_of rfl
  unfold m__law_sum_of b__law_sum_of
  exact (sndb_cons (snds_set (snde_pure [] snd_dnew) sc__law_sum_of.nd rfl loc__law_sum_of__law_counts)
  (sndb_cons (snds_for [1] PO rfl (sndi_seq (snd_var 1 rfl vis__law_sum_of__law_rows)) (sndg_nm sc__law_sum_of.nd rfl loc__law_sum_of__law_drawing) (sndb_cons (snds_set (snde_pure [0, 3] (sndc c__law_terms hr (by decide) PC gl__law_sum_of__law_terms (snda_cons (snd_var 0 rfl vis__law_sum_of__law_many) (snda_cons (snd_var 3 rfl vis__law_sum_of__law_drawing) snda_nil)))) sc__law_sum_of.nd rfl loc__law_sum_of__law_powers)
  (sndb_one (snds_setd (unA hr) rfl vis__law_sum_of__law_counts (snde_pure [2, 4] (snd_bin op_addA (v_add _) (snd_dget (unA hr) (snd_var 2 rfl vis__law_sum_of__law_counts) (snd_var 4 rfl vis__law_sum_of__law_powers) snd_int) snd_int)) (snd_var 4 rfl vis__law_sum_of__law_powers)))))
  (sndb_one (snds_ret (snde_pure [2] (sndc c__law_gathered hr (by decide) PC gl__law_sum_of__law_gathered (snda_cons (snd_var 2 rfl vis__law_sum_of__law_counts) snda_nil))))))))
  (fun _ _ _ _ _ _ us hl => match us, hl with | [_, _], _ => rfl)

theorem ok_law {f : Addr} {fd : FuncData} (F : Fun K "law" "law" s_law f fd) (b_len : mg "len" = none) (b_max : mg "max" = none) (b_min : mg "min" = none) (b_range : mg "range" = none) (b_reversed : mg "reversed" = none) (b_tuple : mg "tuple" = none) (c_order_sum : Cal P w K mg base "order_sum" 5 ["order"] (spF 1 mg (fnP 1 m_order_sum))) (c__law_cell : Cal P w K mg base "_law_cell" 2 ["_law_script", "_law_k"] (spF 2 mg (fnP 5 m__law_cell))) (c__law_take : Cal P w K mg base "_law_take" 1 ["_law_pile", "_law_size"] (spR 2 0 mg (fnR 3 0 m__law_take))) (c__law_order : Cal P w K mg base "_law_order" 2 ["_law_pile", "_law_many"] (spR 2 0 mg (fnR 5 0 m__law_order))) (c__law_is_poly : Cal P w K mg base "_law_is_poly" 2 ["_law_found", "_law_many"] (spF 2 mg (fnP 5 m__law_is_poly))) (c__law_table : Cal P w K mg base "_law_table" 2 ["_law_many"] (spF 1 mg (fnP 8 m__law_table))) (c__law_sum_of : Cal P w K mg base "_law_sum_of" 2 ["_law_many", "_law_rows"] (spF 2 mg (fnP 5 m__law_sum_of))) : FnOkG P w K mg base (L2.CX P w) 6 f fd ["_law_script"] (spF 1 mg (fnP 8 m_law)) :=
  fn_ok F sc_law rfl (by decide) (fun cdv A outer s H E hr => by
  have PC : Passes (L2.CX P w) (cxOf (L2.CX P w) P w K mg base N_law "law" (defScope s_law) f cdv A outer s H E) E := passes_call (takes_of rfl rfl rfl rfl) (fun _ _ _ _ h => h)
  have PO : PassesOwn (model P w) (cxOf (L2.CX P w) P w K mg base N_law "law" (defScope s_law) f cdv A outer s H E).A (cxOf (L2.CX P w) P w K mg base N_law "law" (defScope s_law) f cdv A outer s H E).env (cxOf (L2.CX P w) P w K mg base N_law "law" (defScope s_law) f cdv A outer s H E).xe := passes_of rfl
  unfold m_law b_law
  exact (sndb_cons (snds_for [0] PO rfl (sndi_range1 (snd_b (call_max2 rfl) v_max2 gl_law_max b_max bt_max (snda_cons (snd_b (call_min2 rfl) v_min2 gl_law_min b_min bt_min (snda_cons (snd_b call_len (v_len _) gl_law_len b_len bt_len (snda_cons (snd_var 0 rfl vis_law__law_script) snda_nil)) (snda_cons snd_int snda_nil))) (snda_cons snd_int snda_nil))) gl_law_range b_range) (sndg_nm sc_law.nd rfl loc_law__law_turn) (sndb_cons (snds_set (snde_pure [0, 1] (snd_lst (snda_cons (sndc c__law_cell hr (by decide) PC gl_law__law_cell (snda_cons (snd_var 0 rfl vis_law__law_script) (snda_cons (snd_var 1 rfl vis_law__law_turn) snda_nil))) snda_nil))) sc_law.nd rfl loc_law__law_pile)
  (sndb_cons (snds_set (snde_bin op_addA (v_add _) (sndga_ex (snde_pure [] snd_int)) (sndga_ex (sndeR (i := 2) c__law_take hr (by decide) PC gl_law__law_take (sndag_vr 2 rfl vis_law__law_pile (sndag_ex (snde_pure [] snd_int) sndag_nil))))) sc_law.nd rfl loc_law__law_many)
  (sndb_cons (snds_set (snde_pure [3] (sndc c__law_table hr (by decide) PC gl_law__law_table (snda_cons (snd_var 3 rfl vis_law__law_many) snda_nil))) sc_law.nd rfl loc_law__law_table_here)
  (sndb_one (snds_forG PO rfl (sndig_val (snde_lstS (sndag_ex (sndeR (i := 2) c__law_order hr (by decide) PC gl_law__law_order (sndag_vr 2 rfl vis_law__law_pile (sndag_vr 3 rfl vis_law__law_many sndag_nil))) (sndag_ex (snde_pure [3] (snd_tupRg rfl (sndr_1 (snd_var 3 rfl vis_law__law_many) gl_law_range b_range) gl_law_tuple b_tuple)) (sndag_ex (snde_pure [3] (snd_tupRR rfl (sndr_1 (snd_var 3 rfl vis_law__law_many) gl_law_range b_range) gl_law_tuple b_tuple gl_law_reversed b_reversed)) sndag_nil))))) (sndg_nm sc_law.nd rfl loc_law__law_order_here) (sndb_cons (snds_set (snde_pure [3, 4, 5] (sndc c__law_sum_of hr (by decide) PC gl_law__law_sum_of (snda_cons (snd_var 3 rfl vis_law__law_many) (snda_cons (snd_ix (ix_dic (unA hr)) v_ixD (snd_var 4 rfl vis_law__law_table_here) (snd_var 5 rfl vis_law__law_order_here)) snda_nil)))) sc_law.nd rfl loc_law__law_due)
  (sndb_cons (snds_set (snde_pure [5] (sndc c_order_sum hr (by decide) PC gl_law_order_sum (snda_cons (snd_var 5 rfl vis_law__law_order_here) snda_nil))) sc_law.nd rfl loc_law__law_found)
  (sndb_cons (snds_if (SndW.t (sndw_or (sndt_not (sndt_val (sndc c__law_is_poly hr (by decide) PC gl_law__law_is_poly (snda_cons (snd_var 7 rfl vis_law__law_found) (snda_cons (snd_var 3 rfl vis_law__law_many) snda_nil))))) (sndw_or1 (sndt_cmp (op_neD hr.units) (v_ne _) (snd_var 7 rfl vis_law__law_found) (snd_var 6 rfl vis_law__law_due) (nomark _))))) (sndb_one (snds_ret (snde_pure [] snd_bl))) sndb_nil)
  (sndb_cons (snds_expr (snde_clear rfl vis_law__law_found))
  (sndb_scope [5, 6] [] (sndb_one (snds_if (sndt_cmp (op_neD hr.units) (v_ne _) (sndc c_order_sum hr (by decide) PC gl_law_order_sum (snda_cons (snd_var 5 rfl vis_law__law_order_here) snda_nil)) (snd_var 6 rfl vis_law__law_due) (nomark _)) (sndb_one (snds_ret (snde_pure [] snd_bl))) sndb_nil)))))))))))))
  (sndb_one (snds_ret (snde_pure [] snd_bl)))))

end
end CB

namespace CB
open PySem L2 PySem.Spec PyProof.Rows
theorem defd_of {K : PySem.W.Frag} {h : Heap} {mg : Str → Option Value} {x : Str} {st : Stmt} (X : K.In h) (G : h.Ns mainGlobals mg) {fa : Addr} {oc : Value} {od an : Option Addr} {osl : Array (Option Value)} {kV doc pm cd ct : Value} (a : PySem.W.nsIn K mainGlobals x = some (some (.ref fa)))
    (l : K.lookup fa = some ⟨oc, od, .func (PySem.W.fnOf x x (defArgs st) (defBody st) (defScope st) .none kV doc pm an cd ct), osl⟩) (c : PySem.W.codeIn K cd x = true) (k : PySem.W.keepIn K (.ref fa) = true) : Defd K mg x st := ⟨fa, _, fun_mk l c k, PySem.W.mg_of X G a⟩
theorem gi_of {K : PySem.W.Frag} {h : Heap} {mg : Str → Option Value} {x : Str} {i : Int} {t : Tok} (X : K.In h) (G : h.Ns mainGlobals mg) (a : PySem.W.nsIn K mainGlobals x = some (some (.int i t))) : ∃ t, mg x = some (.int i t) := ⟨t, PySem.W.mg_of X G a⟩
theorem gs_of {K : PySem.W.Frag} {h : Heap} {mg : Str → Option Value} {x : Str} {i : Str} {t : Tok} (X : K.In h) (G : h.Ns mainGlobals mg) (a : PySem.W.nsIn K mainGlobals x = some (some (.str i t))) : ∃ t, mg x = some (.str i t) := ⟨t, PySem.W.mg_of X G a⟩
theorem ownx_of {K : PySem.W.Frag} {h : Heap} {mg : Str → Option Value} {c : Str} {C : Addr} (X : K.In h) (G : h.Ns mainGlobals mg) (a : PySem.W.nsIn K mainGlobals c = some (some (.ref C))) (x : PySem.W.excIn K C VEs "ValueError.__new__" = true) (k : PySem.W.keepIn K (.ref C) = true) (b : PySem.W.subIn K (.ref C) (.type "BaseException") = some true) (t : PySem.W.typeIn K (.ref C) = some (.type "type")) : ∃ C, OwnX K mg c C := ⟨C, PySem.W.mg_of X G a, x, k, b, t⟩
theorem caught_of {K : PySem.W.Frag} {h : Heap} {mg : Str → Option Value} {o : Str} {O : Addr} {cs : List Str} (X : K.In h) (G : h.Ns mainGlobals mg) (a : PySem.W.nsIn K mainGlobals o = some (some (.ref O))) (t : ∀ c ∈ cs, ∃ C, mg c = some (.ref C) ∧ PySem.W.exmOne K (.ref C) (.ref O) = some true) : Caught K mg o cs := ⟨O, PySem.W.mg_of X G a, t⟩
theorem cl_nil {K : PySem.W.Frag} {mg : Str → Option Value} {O : Addr} : ∀ c ∈ ([] : List Str), ∃ C, mg c = some (.ref C) ∧ PySem.W.exmOne K (.ref C) (.ref O) = some true := fun _ h => nomatch h
theorem cl_cons {K : PySem.W.Frag} {h : Heap} {mg : Str → Option Value} {O C : Addr} {c : Str} {cs : List Str} (X : K.In h) (G : h.Ns mainGlobals mg) (a : PySem.W.nsIn K mainGlobals c = some (some (.ref C))) (e : PySem.W.exmOne K (.ref C) (.ref O) = some true) (t : ∀ c ∈ cs, ∃ C, mg c = some (.ref C) ∧ PySem.W.exmOne K (.ref C) (.ref O) = some true) : ∀ c' ∈ c :: cs, ∃ C, mg c' = some (.ref C) ∧ PySem.W.exmOne K (.ref C) (.ref O) = some true := fun c' hc => (List.mem_cons.mp hc).elim (fun z => z ▸ ⟨C, PySem.W.mg_of X G a, e⟩) (t c')
theorem if_cons {K : PySem.W.Frag} {h : Heap} {mg : Str → Option Value} {c : Str} {b : Bool} {C : Addr} {cv : Value} {tab : List (Str × Bool)} (X : K.In h) (G : h.Ns mainGlobals mg) (a : PySem.W.nsIn K mainGlobals c = some (some (.ref C))) (x : ExcC K C) (e : PySem.W.kitOne K (.ref C) cv = some b) (t : ∀ c b, tab.lookup c = some b → ∃ C, mg c = some (.ref C) ∧ ExcC K C ∧ PySem.W.kitOne K (.ref C) cv = some b) :
    ∀ c' b', ((c, b) :: tab).lookup c' = some b' → ∃ C, mg c' = some (.ref C) ∧ ExcC K C ∧ PySem.W.kitOne K (.ref C) cv = some b' := by
  intro c' b' e'
  simp only [List.lookup] at e'
  cases q : (c' == c) with
  | true => rw [q] at e'; cases e'; rw [show c' = c by simpa using q]; exact ⟨C, PySem.W.mg_of X G a, x, e⟩
  | false => rw [q] at e'; exact t c' b' e'
theorem if_nil {K : PySem.W.Frag} {mg : Str → Option Value} {cv : Value} : ∀ c b, List.lookup c ([] : List (Str × Bool)) = some b → ∃ C, mg c = some (.ref C) ∧ ExcC K C ∧ PySem.W.kitOne K (.ref C) cv = some b := fun _ _ e => nomatch e
theorem iso_of {K : PySem.W.Frag} {h : Heap} {mg : Str → Option Value} {x : Str} {C : Addr} {tab : List (Str × Bool)} (X : K.In h) (G : h.Ns mainGlobals mg) (a : PySem.W.nsIn K mainGlobals x = some (some (.ref C))) (z : PySem.W.kitOne K (.type "NoneType") (.ref C) = some false) (t : ∀ c b, tab.lookup c = some b → ∃ C1, mg c = some (.ref C1) ∧ ExcC K C1 ∧ PySem.W.kitOne K (.ref C1) (.ref C) = some b) : ∃ C, mg x = some (.ref C) ∧ IsF K mg (.ref C) tab := ⟨C, PySem.W.mg_of X G a, z, t⟩
theorem kit_ref {K : PySem.W.Frag} {t : Value} {C : Addr} {b : Bool} (hd : PySem.W.hasDictIn K C = true) (ty : PySem.W.typeIn K (.ref C) = some (.type "type")) (s : PySem.W.subIn K t (.ref C) = some b) (q : (!(t == .ref C) || b) = true) : PySem.W.kitOne K t (.ref C) = some b := by
  obtain ⟨cd, hc, _⟩ := PySem.W.any_some hd
  unfold PySem.W.kitOne
  cases e : (t == Value.ref C) with
  | true => rw [e] at q; rw [if_pos rfl]; simp at q; rw [q]
  | false =>
    rw [if_neg Bool.false_ne_true]
    show (if ((PySem.W.clsIn K C).isSome && PySem.W.typeIn K (.ref C) == some (.type "type")) = true then PySem.W.subIn K t (.ref C) else none) = some b
    rw [hc, ty, if_pos (by rfl)]; exact s
theorem kit_bt {K : PySem.W.Frag} {t : Value} {T : String} {b : Bool} (m : PySem.W.kitMeta T = true) (s : PySem.W.subIn K t (.type T) = some b) (q : (!(t == .type T) || b) = true) : PySem.W.kitOne K t (.type T) = some b := by
  unfold PySem.W.kitOne
  cases e : (t == Value.type T) with
  | true => rw [e] at q; rw [if_pos rfl]; simp at q; rw [q]
  | false =>
    rw [if_neg Bool.false_ne_true]
    show (if PySem.W.kitMeta T = true then PySem.W.subIn K t (.type T) else none) = some b
    rw [if_pos m]; exact s
theorem all_ok {P : Program} {w : World} {K : PySem.W.Frag} {mg : Str → Option Value} {fa : Addr} (hfa : mg "law" = some (.ref fa)) (D_is_whole : Defd K mg "is_whole" s_is_whole) (D_gathered : Defd K mg "gathered" s_gathered) (D_is_order : Defd K mg "is_order" s_is_order) (D_look_at_order : Defd K mg "look_at_order" s_look_at_order) (D_plain : Defd K mg "plain" s_plain) (D_least_by : Defd K mg "least_by" s_least_by) (D_divided : Defd K mg "divided" s_divided) (D_divided_by : Defd K mg "divided_by" s_divided_by) (D_stair : Defd K mg "stair" s_stair) (D_sum_of : Defd K mg "sum_of" s_sum_of) (D_order_sum : Defd K mg "order_sum" s_order_sum) (D__law_mixed : Defd K mg "_law_mixed" s__law_mixed) (D__law_cell : Defd K mg "_law_cell" s__law_cell) (D__law_take : Defd K mg "_law_take" s__law_take) (D__law_order : Defd K mg "_law_order" s__law_order) (D__law_swapped : Defd K mg "_law_swapped" s__law_swapped) (D__law_gathered : Defd K mg "_law_gathered" s__law_gathered) (D__law_whole : Defd K mg "_law_whole" s__law_whole) (D__law_is_poly : Defd K mg "_law_is_poly" s__law_is_poly) (D__law_table : Defd K mg "_law_table" s__law_table) (D__law_terms : Defd K mg "_law_terms" s__law_terms) (D__law_sum_of : Defd K mg "_law_sum_of" s__law_sum_of) (D_law : Defd K mg "law" s_law) (x_BadOrder : ∃ C, OwnX K mg "BadOrder" C) (b_all : mg "all" = none) (b_bool : mg "bool" = none) (b_int : mg "int" = none) (b_isinstance : mg "isinstance" = none) (b_len : mg "len" = none) (b_list : mg "list" = none) (b_max : mg "max" = none) (b_min : mg "min" = none) (b_range : mg "range" = none) (b_reversed : mg "reversed" = none) (b_sorted : mg "sorted" = none) (b_tuple : mg "tuple" = none) (g_MOST : ∃ t, mg "MOST" = some (.int 5 t)) :
    ∃ fd : FuncData, (∀ (s : Shared) (v : Value), BindsTo s fd ⟨[v], []⟩ [("_law_script", v)]) ∧ ∀ base : Heap, K.In base → base.Ns mainGlobals mg → FnOkG P w K mg base (L2.CX P w) 6 fa fd ["_law_script"] spLaw := by
  letI : CT := ⟨mg⟩
  have hmg : CT.mg = mg := rfl
  have c_is_whole : ∀ base : Heap, Cal P w K mg base "is_whole" 1 ["thing"] (spF 1 mg (fnP 1 m_is_whole)) := fun base => ok_is_whole D_is_whole b_bool b_int b_isinstance
  have c_gathered : ∀ base : Heap, Cal P w K mg base "gathered" 1 ["counts"] (spF 1 mg (fnP 3 m_gathered)) := fun base => ok_gathered D_gathered b_sorted
  have c_is_order : ∀ base : Heap, Cal P w K mg base "is_order" 2 ["thing"] (spF 1 mg (fnP 2 m_is_order)) := fun base => ok_is_order D_is_order b_all b_isinstance b_len b_list b_range b_sorted b_tuple g_MOST (c_is_whole base)
  have c_look_at_order : ∀ base : Heap, Cal P w K mg base "look_at_order" 3 ["thing"] (spF 1 mg (fnP 1 m_look_at_order)) := fun base => ok_look_at_order D_look_at_order x_BadOrder (c_is_order base)
  have c_plain : ∀ base : Heap, Cal P w K mg base "plain" 1 ["many"] (spF 1 mg (fnP 1 m_plain)) := fun base => ok_plain D_plain b_range b_tuple
  have c_least_by : ∀ base : Heap, Cal P w K mg base "least_by" 2 ["order"] (spF 1 mg (fnP 6 m_least_by)) := fun base => ok_least_by D_least_by b_len b_range b_tuple (c_plain base)
  have c_divided : ∀ base : Heap, Cal P w K mg base "divided" 2 ["some", "k"] (spF 2 mg (fnP 9 m_divided)) := fun base => ok_divided D_divided b_max b_min b_range (c_gathered base)
  have c_divided_by : ∀ base : Heap, Cal P w K mg base "divided_by" 3 ["some", "word"] (spO 2 mg (fnO 3 m_divided_by)) := fun base => ok_divided_by D_divided_by b_reversed (c_divided base)
  have c_stair : ∀ base : Heap, Cal P w K mg base "stair" 1 ["many"] (spF 1 mg (fnP 2 m_stair)) := fun base => ok_stair D_stair b_range b_tuple
  have c_sum_of : ∀ base : Heap, Cal P w K mg base "sum_of" 4 ["order"] (spF 1 mg (fnP 4 m_sum_of)) := fun base => ok_sum_of D_sum_of b_len b_range b_tuple (c_least_by base) (c_divided_by base) (c_stair base)
  have c_order_sum : ∀ base : Heap, Cal P w K mg base "order_sum" 5 ["order"] (spF 1 mg (fnP 1 m_order_sum)) := fun base => ok_order_sum D_order_sum (c_look_at_order base) (c_sum_of base)
  have c__law_mixed : ∀ base : Heap, Cal P w K mg base "_law_mixed" 1 ["_law_cell_here", "_law_k"] (spF 2 mg (fnP 3 m__law_mixed)) := fun base => ok__law_mixed D__law_mixed 
  have c__law_cell : ∀ base : Heap, Cal P w K mg base "_law_cell" 2 ["_law_script", "_law_k"] (spF 2 mg (fnP 5 m__law_cell)) := fun base => ok__law_cell D__law_cell b_len b_range (c__law_mixed base)
  have c__law_take : ∀ base : Heap, Cal P w K mg base "_law_take" 1 ["_law_pile", "_law_size"] (spR 2 0 mg (fnR 3 0 m__law_take)) := fun base => ok__law_take D__law_take 
  have c__law_order : ∀ base : Heap, Cal P w K mg base "_law_order" 2 ["_law_pile", "_law_many"] (spR 2 0 mg (fnR 5 0 m__law_order)) := fun base => ok__law_order D__law_order b_list b_range b_tuple (c__law_take base)
  have c__law_swapped : ∀ base : Heap, Cal P w K mg base "_law_swapped" 1 ["_law_order_here", "_law_i", "_law_j"] (spF 3 mg (fnP 4 m__law_swapped)) := fun base => ok__law_swapped D__law_swapped b_list b_tuple
  have c__law_gathered : ∀ base : Heap, Cal P w K mg base "_law_gathered" 1 ["_law_counts"] (spF 1 mg (fnP 3 m__law_gathered)) := fun base => ok__law_gathered D__law_gathered b_sorted
  have c__law_whole : ∀ base : Heap, Cal P w K mg base "_law_whole" 1 ["_law_found"] (spF 1 mg (fnP 1 m__law_whole)) := fun base => ok__law_whole D__law_whole b_bool b_int b_isinstance
  have c__law_is_poly : ∀ base : Heap, Cal P w K mg base "_law_is_poly" 2 ["_law_found", "_law_many"] (spF 2 mg (fnP 5 m__law_is_poly)) := fun base => ok__law_is_poly D__law_is_poly b_all b_isinstance b_len b_list b_range b_tuple (c__law_whole base)
  have c__law_table : ∀ base : Heap, Cal P w K mg base "_law_table" 2 ["_law_many"] (spF 1 mg (fnP 8 m__law_table)) := fun base => ok__law_table D__law_table b_range b_reversed b_sorted b_tuple (c__law_swapped base)
  have c__law_terms : ∀ base : Heap, Cal P w K mg base "_law_terms" 1 ["_law_many", "_law_drawing"] (spF 2 mg (fnP 4 m__law_terms)) := fun base => ok__law_terms D__law_terms b_len b_range b_tuple
  have c__law_sum_of : ∀ base : Heap, Cal P w K mg base "_law_sum_of" 2 ["_law_many", "_law_rows"] (spF 2 mg (fnP 5 m__law_sum_of)) := fun base => ok__law_sum_of D__law_sum_of (c__law_gathered base) (c__law_terms base)
  exact law_F D_law hfa (fun _ _ _ _ _ _ _ _ => .of_eq rfl) (fun base f fd F => ok_law F b_len b_max b_min b_range b_reversed b_tuple (c_order_sum base) (c__law_cell base) (c__law_take base) (c__law_order base) (c__law_is_poly base) (c__law_table base) (c__law_sum_of base)) law_plain
end CB

open PySem PySem.W PyProof.Rows in
set_option maxRecDepth 100000 in
set_option maxHeartbeats 0 in
theorem PySem.Challenge.cw_crossbends_k38_sums_of_orders_holds : PySem.Challenge.rw_crossbends_k38_sums_of_orders.Holds := by
  w_on; o_law; k_head; (case hw => w_witness2)
  k_fill
  refine CB.law_walk (l := PySem.Challenge.rw_crossbends_k38_sums_of_orders) (k := 6) (x := "_law_script") rfl rfl ⟨rfl, by decide, by decide⟩ (fun w h Y => PySem.W.kIn_of Y) ?nl ?F
  case nl => intro p; first | rfl | kernel_rfl | with_unfolding_all rfl
  case F =>
    intro w mg fa h KX G hmg
    refine' CB.all_ok hmg (CB.defd_of KX G ?a_is_whole ?l_is_whole ?c_is_whole ?k_is_whole) (CB.defd_of KX G ?a_gathered ?l_gathered ?c_gathered ?k_gathered) (CB.defd_of KX G ?a_is_order ?l_is_order ?c_is_order ?k_is_order) (CB.defd_of KX G ?a_look_at_order ?l_look_at_order ?c_look_at_order ?k_look_at_order) (CB.defd_of KX G ?a_plain ?l_plain ?c_plain ?k_plain) (CB.defd_of KX G ?a_least_by ?l_least_by ?c_least_by ?k_least_by) (CB.defd_of KX G ?a_divided ?l_divided ?c_divided ?k_divided) (CB.defd_of KX G ?a_divided_by ?l_divided_by ?c_divided_by ?k_divided_by) (CB.defd_of KX G ?a_stair ?l_stair ?c_stair ?k_stair) (CB.defd_of KX G ?a_sum_of ?l_sum_of ?c_sum_of ?k_sum_of) (CB.defd_of KX G ?a_order_sum ?l_order_sum ?c_order_sum ?k_order_sum) (CB.defd_of KX G ?a__law_mixed ?l__law_mixed ?c__law_mixed ?k__law_mixed) (CB.defd_of KX G ?a__law_cell ?l__law_cell ?c__law_cell ?k__law_cell) (CB.defd_of KX G ?a__law_take ?l__law_take ?c__law_take ?k__law_take) (CB.defd_of KX G ?a__law_order ?l__law_order ?c__law_order ?k__law_order) (CB.defd_of KX G ?a__law_swapped ?l__law_swapped ?c__law_swapped ?k__law_swapped) (CB.defd_of KX G ?a__law_gathered ?l__law_gathered ?c__law_gathered ?k__law_gathered) (CB.defd_of KX G ?a__law_whole ?l__law_whole ?c__law_whole ?k__law_whole) (CB.defd_of KX G ?a__law_is_poly ?l__law_is_poly ?c__law_is_poly ?k__law_is_poly) (CB.defd_of KX G ?a__law_table ?l__law_table ?c__law_table ?k__law_table) (CB.defd_of KX G ?a__law_terms ?l__law_terms ?c__law_terms ?k__law_terms) (CB.defd_of KX G ?a__law_sum_of ?l__law_sum_of ?c__law_sum_of ?k__law_sum_of) (CB.defd_of KX G ?a_law ?l_law ?c_law ?k_law) (CB.ownx_of KX G ?na_BadOrder ?ox_BadOrder ?ok_BadOrder ?ob_BadOrder ?ot_BadOrder) (PySem.W.mg_none_of KX G ?z_all) (PySem.W.mg_none_of KX G ?z_bool) (PySem.W.mg_none_of KX G ?z_int) (PySem.W.mg_none_of KX G ?z_isinstance) (PySem.W.mg_none_of KX G ?z_len) (PySem.W.mg_none_of KX G ?z_list) (PySem.W.mg_none_of KX G ?z_max) (PySem.W.mg_none_of KX G ?z_min) (PySem.W.mg_none_of KX G ?z_range) (PySem.W.mg_none_of KX G ?z_reversed) (PySem.W.mg_none_of KX G ?z_sorted) (PySem.W.mg_none_of KX G ?z_tuple) (CB.gi_of KX G ?g_MOST)
    (case a_is_whole => k_is)
    (case l_is_whole => k_is)
    (case c_is_whole => k_is)
    (case k_is_whole => k_is)
    (case a_gathered => k_is)
    (case l_gathered => k_is)
    (case c_gathered => k_is)
    (case k_gathered => k_is)
    (case a_is_order => k_is)
    (case l_is_order => k_is)
    (case c_is_order => k_is)
    (case k_is_order => k_is)
    (case a_look_at_order => k_is)
    (case l_look_at_order => k_is)
    (case c_look_at_order => k_is)
    (case k_look_at_order => k_is)
    (case a_plain => k_is)
    (case l_plain => k_is)
    (case c_plain => k_is)
    (case k_plain => k_is)
    (case a_least_by => k_is)
    (case l_least_by => k_is)
    (case c_least_by => k_is)
    (case k_least_by => k_is)
    (case a_divided => k_is)
    (case l_divided => k_is)
    (case c_divided => k_is)
    (case k_divided => k_is)
    (case a_divided_by => k_is)
    (case l_divided_by => k_is)
    (case c_divided_by => k_is)
    (case k_divided_by => k_is)
    (case a_stair => k_is)
    (case l_stair => k_is)
    (case c_stair => k_is)
    (case k_stair => k_is)
    (case a_sum_of => k_is)
    (case l_sum_of => k_is)
    (case c_sum_of => k_is)
    (case k_sum_of => k_is)
    (case a_order_sum => k_is)
    (case l_order_sum => k_is)
    (case c_order_sum => k_is)
    (case k_order_sum => k_is)
    (case a__law_mixed => k_is)
    (case l__law_mixed => k_is)
    (case c__law_mixed => k_is)
    (case k__law_mixed => k_is)
    (case a__law_cell => k_is)
    (case l__law_cell => k_is)
    (case c__law_cell => k_is)
    (case k__law_cell => k_is)
    (case a__law_take => k_is)
    (case l__law_take => k_is)
    (case c__law_take => k_is)
    (case k__law_take => k_is)
    (case a__law_order => k_is)
    (case l__law_order => k_is)
    (case c__law_order => k_is)
    (case k__law_order => k_is)
    (case a__law_swapped => k_is)
    (case l__law_swapped => k_is)
    (case c__law_swapped => k_is)
    (case k__law_swapped => k_is)
    (case a__law_gathered => k_is)
    (case l__law_gathered => k_is)
    (case c__law_gathered => k_is)
    (case k__law_gathered => k_is)
    (case a__law_whole => k_is)
    (case l__law_whole => k_is)
    (case c__law_whole => k_is)
    (case k__law_whole => k_is)
    (case a__law_is_poly => k_is)
    (case l__law_is_poly => k_is)
    (case c__law_is_poly => k_is)
    (case k__law_is_poly => k_is)
    (case a__law_table => k_is)
    (case l__law_table => k_is)
    (case c__law_table => k_is)
    (case k__law_table => k_is)
    (case a__law_terms => k_is)
    (case l__law_terms => k_is)
    (case c__law_terms => k_is)
    (case k__law_terms => k_is)
    (case a__law_sum_of => k_is)
    (case l__law_sum_of => k_is)
    (case c__law_sum_of => k_is)
    (case k__law_sum_of => k_is)
    (case a_law => k_is)
    (case l_law => k_is)
    (case c_law => k_is)
    (case k_law => k_is)
    (case na_BadOrder => k_is)
    (case ox_BadOrder => k_exc)
    (case ok_BadOrder => k_is)
    (case ob_BadOrder => k_is)
    (case ot_BadOrder => k_is)
    (case z_all => k_is)
    (case z_bool => k_is)
    (case z_int => k_is)
    (case z_isinstance => k_is)
    (case z_len => k_is)
    (case z_list => k_is)
    (case z_max => k_is)
    (case z_min => k_is)
    (case z_range => k_is)
    (case z_reversed => k_is)
    (case z_sorted => k_is)
    (case z_tuple => k_is)
    (case g_MOST => k_is)
#print axioms PySem.Challenge.cw_crossbends_k38_sums_of_orders_holds

