import PyProof.Rows.All
import Wide.All
import OpenK.AllK
import Wide.FinOn
import HandS.ForMost
import HandS.ForExc
import HandS.Walk
import HandS.ExcInit
import HandS.Wide
import HandS.IsInst
import HandS.TupAny
import HandS.Zip
import HandS.Gcd
import HandS.Deep
import HandS.TupLe
import HandS.TupSets
import HandS.TryOnly
import HandS.Iter
import HandS.Conv
import HandS.ExcField
import HandS.ExcIs
import HandS.Star
import HandS.Dict
import HandS.TupMul
import HandS.Style
import HandS.SortInts
import KE.GoesNew
import HandS.Words
import PySem.Challenge.RW_hiddenties_k02_whole_models_and_patterns
import HandS.Codes
set_option Elab.async false
set_option linter.all false
set_option maxRecDepth 100000
set_option maxHeartbeats 4000000
/-! # EvA: plain trees, how a heap bears them, what is kept; contracts that know that no display is running -/
namespace Ev
open PySem PySem.Spec PyProof.Rows L2

/-- a plain tree: what a value of the program is, without addresses -/
inductive D where
  | non | bl (b : Bool) | int (i : Int) | str (s : Str)
  | tup (ds : List D) | lst (ds : List D)
  | fn (g : Nat) | wel | dic (kvs : List (Str × Int)) | fz (ds : List D)
  deriving Inhabited

/-- the written part, and where the defs stand -/
structure Kn where
  K : PySem.W.Frag
  fa : Nat → Addr

/-- the list at a is known to stay: locked, or written -/
def SqF (K : PySem.W.Frag) (H : Hp) (a : Addr) (xs : List V) : Prop :=
  (∃ o, H a = some (.frz o (.lst xs))) ∨
    ∃ (o : Obj) (its : Array Value) (n : Nat), K.lookup a = some o ∧ o.cls = .type "list" ∧ o.dict = none ∧ o.data = .seq its n ∧ its.size ≤ sizeLine ∧ Vals xs its.toList
theorem SqF.sq {K : PySem.W.Frag} {H : Hp} {a : Addr} {xs : List V} (h : SqF K H a xs) : SqL K H a xs := by
  rcases h with h | h
  · exact .inl (.inr h)
  · exact .inr h

mutual
/-- v is the tree d in H; ns: the lists in it that may change -/
inductive Rp (c : Kn) (W : Option Addr) (H : Hp) : V → D → List Addr → Prop
  | non : Rp c W H .non .non []
  | bl (b : Bool) : Rp c W H (.bl b) (.bl b) []
  | int (i : Int) : Rp c W H (.int i) (.int i) []
  | str (x : Str) : Rp c W H (.str x) (.str x) []
  | tup {a : Addr} {xs : List V} {ds : List D} {ns : List Addr} : SqT c.K H a xs → RpA c W H xs ds ns → Rp c W H (.ref a) (.tup ds) ns
  | lst {a : Addr} {xs : List V} {ds : List D} {ns : List Addr} : H a = some (.lst xs) → W ≠ some a → RpA c W H xs ds ns → Rp c W H (.ref a) (.lst ds) (a :: ns)
  | lsf {a : Addr} {xs : List V} {ds : List D} {ns : List Addr} : SqF c.K H a xs → RpA c W H xs ds ns → Rp c W H (.ref a) (.fz ds) ns
  | fn (g : Nat) : Rp c W H (.ref (c.fa g)) (.fn g) []
  | wel {a : Addr} : W = some a → Rp c W H (.ref a) .wel []
  | dic {a : Addr} {kvs : List (Str × Int)} : H a = some (.dK (kvs.map fun p => (.inr p.1, V.int p.2))) → Rp c W H (.ref a) (.dic kvs) []
inductive RpA (c : Kn) (W : Option Addr) (H : Hp) : List V → List D → List Addr → Prop
  | nil : RpA c W H [] [] []
  | cons {v : V} {vs : List V} {d : D} {ds : List D} {n1 n2 : List Addr} : Rp c W H v d n1 → RpA c W H vs ds n2 → RpA c W H (v :: vs) (d :: ds) (n1 ++ n2)
end

/-- all but what stands at S is kept -/
structure Kp (S : List Addr) (H H' : Hp) : Prop where
  keep : ∀ a o, H a = some o → a ∉ S → H' a = some o
  dom : ∀ a, H' a = none → H a = none
theorem Kp.refl {S : List Addr} {H : Hp} : Kp S H H := ⟨fun _ _ h _ => h, fun _ h => h⟩
theorem Kp.trans {S : List Addr} {H H1 H2 : Hp} (a : Kp S H H1) (b : Kp S H1 H2) : Kp S H H2 :=
  ⟨fun x o h n => b.keep x o (a.keep x o h n) n, fun x h => a.dom x (b.dom x h)⟩
theorem Kp.mono {S S' : List Addr} {H H' : Hp} (k : Kp S H H') (h : ∀ a ∈ S, a ∈ S') : Kp S' H H' :=
  ⟨fun a o e n => k.keep a o e fun z => n (h a z), k.dom⟩
/-- a new object -/
theorem Kp.new {S : List Addr} {H : Hp} {p : Addr} {o : HO} (np : H p = none) : Kp S H (upd H p o) :=
  ⟨fun a u e _ => by rw [upd_ne (ne_of_none e np)]; exact e, fun a h => by
    by_cases e : a = p
    · rw [e]; exact np
    · rw [upd_ne e] at h; exact h⟩
/-- an object at S is written -/
theorem Kp.wr {H : Hp} {p : Addr} {o u : HO} (e : H p = some u) : Kp [p] H (upd H p o) :=
  ⟨fun a v h n => by rw [upd_ne (fun z => n (by simp [z]))]; exact h, fun a h => by
    by_cases z : a = p
    · rw [z, upd_same] at h; cases h
    · rw [upd_ne z] at h; exact h⟩
/-- S are lists -/
def Ls (H : Hp) (S : List Addr) : Prop := ∀ a ∈ S, ∃ xs, H a = some (.lst xs)
theorem Ls.nil {H : Hp} : Ls H [] := fun a h => by simp at h

section
variable {c : Kn} {W : Option Addr} {H H' : Hp} {S : List Addr}
theorem Kp.sqT (k : Kp S H H') (l : Ls H S) {a : Addr} {xs : List V} (h : SqT c.K H a xs) : SqT c.K H' a xs := by
  have nS : ∀ o, H a = some o → (∀ ys, o ≠ .lst ys) → a ∉ S := fun o e d z => by
    obtain ⟨ys, q⟩ := l a z
    rw [e] at q; exact d ys (Option.some.inj q)
  rcases h with (h | ⟨o, h⟩) | h
  · exact .inl (.inl (k.keep a _ h (nS _ h fun _ q => by cases q)))
  · exact .inl (.inr ⟨o, k.keep a _ h (nS _ h fun _ q => by cases q)⟩)
  · exact .inr h
theorem Kp.sqF (k : Kp S H H') (l : Ls H S) {a : Addr} {xs : List V} (h : SqF c.K H a xs) : SqF c.K H' a xs := by
  rcases h with ⟨o, h⟩ | h
  · refine .inl ⟨o, k.keep a _ h fun z => ?_⟩
    obtain ⟨ys, q⟩ := l a z
    rw [h] at q; cases q
  · exact .inr h
mutual
theorem Rp.keep : ∀ (d : D) {v : V} {ns : List Addr}, Rp c W H v d ns → Kp S H H' → Ls H S → (∀ a ∈ ns, a ∉ S) → Rp c W H' v d ns
  | .non, _, _, h, _, _, _ => by cases h; exact .non
  | .bl b, _, _, h, _, _, _ => by cases h; exact .bl b
  | .int i, _, _, h, _, _, _ => by cases h; exact .int i
  | .str x, _, _, h, _, _, _ => by cases h; exact .str x
  | .fn g, _, _, h, _, _, _ => by cases h; exact .fn g
  | .wel, _, _, h, _, _, _ => by cases h with | wel e => exact .wel e
  | .dic _, _, _, h, k, l, _ => by
    cases h with
    | dic e =>
      refine .dic (k.keep _ _ e fun z => ?_)
      obtain ⟨ys, q⟩ := l _ z
      rw [e] at q; cases q
  | .tup ds, _, _, h, k, l, n => by
    cases h with
    | tup s r => exact .tup (k.sqT l s) (RpA.keep ds r k l n)
  | .lst ds, _, _, h, k, l, n => by
    cases h with
    | lst e w r => exact .lst (k.keep _ _ e (n _ (by simp))) w (RpA.keep ds r k l fun a ha => n a (by simp [ha]))
  | .fz ds, _, _, h, k, l, n => by
    cases h with
    | lsf e r => exact .lsf (k.sqF l e) (RpA.keep ds r k l n)
theorem RpA.keep : ∀ (ds : List D) {vs : List V} {ns : List Addr}, RpA c W H vs ds ns → Kp S H H' → Ls H S → (∀ a ∈ ns, a ∉ S) → RpA c W H' vs ds ns
  | [], _, _, h, _, _, _ => by cases h; exact .nil
  | d :: ds, _, _, h, k, l, n => by
    cases h with
    | cons r1 r2 => exact .cons (Rp.keep d r1 k l fun a ha => n a (by simp [ha])) (RpA.keep ds r2 k l fun a ha => n a (by simp [ha]))
end
mutual
/-- the lists in a value are there, and none is the well -/
theorem Rp.there : ∀ (d : D) {v : V} {ns : List Addr}, Rp c W H v d ns → ∀ a ∈ ns, (∃ xs, H a = some (.lst xs)) ∧ W ≠ some a
  | .non, _, _, h, a, ha => by cases h; simp at ha
  | .bl _, _, _, h, a, ha => by cases h; simp at ha
  | .int _, _, _, h, a, ha => by cases h; simp at ha
  | .str _, _, _, h, a, ha => by cases h; simp at ha
  | .fn _, _, _, h, a, ha => by cases h; simp at ha
  | .wel, _, _, h, a, ha => by cases h; simp at ha
  | .dic _, _, _, h, a, ha => by cases h; simp at ha
  | .tup ds, _, _, h, a, ha => by
    cases h with
    | tup s r => exact RpA.there ds r a ha
  | .lst ds, _, _, h, a, ha => by
    cases h with
    | lst e w r =>
      rcases List.mem_cons.mp ha with rfl | ha
      · exact ⟨⟨_, e⟩, w⟩
      · exact RpA.there ds r a ha
  | .fz ds, _, _, h, a, ha => by
    cases h with
    | lsf e r => exact RpA.there ds r a ha
theorem RpA.there : ∀ (ds : List D) {vs : List V} {ns : List Addr}, RpA c W H vs ds ns → ∀ a ∈ ns, (∃ xs, H a = some (.lst xs)) ∧ W ≠ some a
  | [], _, _, h, a, ha => by cases h; simp at ha
  | d :: ds, _, _, h, a, ha => by
    cases h with
    | cons r1 r2 =>
      rcases List.mem_append.mp ha with ha | ha
      · exact Rp.there d r1 a ha
      · exact RpA.there ds r2 a ha
end
mutual
/-- no list that may change, no well: the tree alone -/
def D.pure : D → Bool
  | .tup ds => pureAll ds
  | .fz ds => pureAll ds
  | .lst _ => false
  | .wel => false
  | _ => true
def pureAll : List D → Bool
  | [] => true
  | d :: ds => D.pure d && pureAll ds
end
mutual
theorem Rp.pure_nil : ∀ (d : D) {v : V} {ns : List Addr}, Rp c W H v d ns → d.pure = true → ns = []
  | .non, _, _, h, _ => by cases h; rfl
  | .bl _, _, _, h, _ => by cases h; rfl
  | .int _, _, _, h, _ => by cases h; rfl
  | .str _, _, _, h, _ => by cases h; rfl
  | .fn _, _, _, h, _ => by cases h; rfl
  | .dic _, _, _, h, _ => by cases h; rfl
  | .wel, _, _, h, p => by simp [D.pure] at p
  | .lst _, _, _, h, p => by simp [D.pure] at p
  | .tup ds, _, _, h, p => by
    cases h with
    | tup s r => exact RpA.pure_nil ds r (by simpa [D.pure] using p)
  | .fz ds, _, _, h, p => by
    cases h with
    | lsf s r => exact RpA.pure_nil ds r (by simpa [D.pure] using p)
theorem RpA.pure_nil : ∀ (ds : List D) {vs : List V} {ns : List Addr}, RpA c W H vs ds ns → pureAll ds = true → ns = []
  | [], _, _, h, _ => by cases h; rfl
  | d :: ds, _, _, h, p => by
    simp only [pureAll, Bool.and_eq_true] at p
    cases h with
    | cons r1 r2 => rw [Rp.pure_nil d r1 p.1, RpA.pure_nil ds r2 p.2]; rfl
end
mutual
/-- a pure tree does not look at the well -/
theorem Rp.anyW {W' : Option Addr} : ∀ (d : D) {v : V} {ns : List Addr}, Rp c W H v d ns → d.pure = true → Rp c W' H v d ns
  | .non, _, _, h, _ => by cases h; exact .non
  | .bl b, _, _, h, _ => by cases h; exact .bl b
  | .int i, _, _, h, _ => by cases h; exact .int i
  | .str x, _, _, h, _ => by cases h; exact .str x
  | .fn g, _, _, h, _ => by cases h; exact .fn g
  | .dic _, _, _, h, _ => by cases h with | dic e => exact .dic e
  | .wel, _, _, h, p => by simp [D.pure] at p
  | .lst _, _, _, h, p => by simp [D.pure] at p
  | .tup ds, _, _, h, p => by
    cases h with
    | tup s r => exact .tup s (RpA.anyW ds r (by simpa [D.pure] using p))
  | .fz ds, _, _, h, p => by
    cases h with
    | lsf s r => exact .lsf s (RpA.anyW ds r (by simpa [D.pure] using p))
theorem RpA.anyW {W' : Option Addr} : ∀ (ds : List D) {vs : List V} {ns : List Addr}, RpA c W H vs ds ns → pureAll ds = true → RpA c W' H vs ds ns
  | [], _, _, h, _ => by cases h; exact .nil
  | d :: ds, _, _, h, p => by
    simp only [pureAll, Bool.and_eq_true] at p
    cases h with
    | cons r1 r2 => exact .cons (Rp.anyW d r1 p.1) (RpA.anyW ds r2 p.2)
end
theorem RpA.length : ∀ {ds : List D} {vs : List V} {ns : List Addr}, RpA c W H vs ds ns → vs.length = ds.length
  | [], _, _, h => by cases h; rfl
  | d :: ds, _, _, h => by
    cases h with
    | cons r1 r2 => simp [RpA.length r2]
theorem RpA.get : ∀ {ds : List D} {vs : List V} {ns : List Addr} {i : Nat} {d : D}, RpA c W H vs ds ns → ds[i]? = some d → ∃ v n1, vs[i]? = some v ∧ Rp c W H v d n1 ∧ (∀ a ∈ n1, a ∈ ns)
  | [], _, _, _, _, h, e => by simp at e
  | d0 :: ds, _, _, 0, d, h, e => by
    cases h with
    | cons r1 r2 =>
      simp at e; subst e
      exact ⟨_, _, rfl, r1, fun a ha => by simp [ha]⟩
  | d0 :: ds, _, _, i + 1, d, h, e => by
    cases h with
    | cons r1 r2 =>
      obtain ⟨v, n1, h1, h2, h3⟩ := RpA.get (i := i) r2 (by simpa using e)
      exact ⟨v, n1, by simpa using h1, h2, fun a ha => by simp [h3 a ha]⟩
theorem RpA.append : ∀ {ds es : List D} {vs us : List V} {n1 n2 : List Addr}, RpA c W H vs ds n1 → RpA c W H us es n2 → RpA c W H (vs ++ us) (ds ++ es) (n1 ++ n2)
  | [], _, _, _, _, _, h, g => by cases h; simpa using g
  | d :: ds, _, _, _, _, _, h, g => by
    cases h with
    | cons r1 r2 =>
      have := RpA.append r2 g
      simp only [List.cons_append, List.append_assoc]
      exact .cons r1 this
theorem RpA.one {v : V} {d : D} {ns : List Addr} (h : Rp c W H v d ns) : RpA c W H [v] [d] ns := by
  have := RpA.cons h (.nil : RpA c W H [] [] [])
  simpa using this
/-- a sublist by places -/
theorem RpA.take : ∀ {ds : List D} {vs : List V} {ns : List Addr} (k : Nat), RpA c W H vs ds ns → ∃ n1, RpA c W H (vs.take k) (ds.take k) n1 ∧ (∀ a ∈ n1, a ∈ ns) ∧ (ns.Nodup → n1.Nodup)
  | [], _, _, k, h => by cases h; exact ⟨[], by simpa using RpA.nil, by simp, fun _ => List.nodup_nil⟩
  | d :: ds, _, _, 0, h => ⟨[], by simpa using RpA.nil, by simp, fun _ => List.nodup_nil⟩
  | d :: ds, _, _, k + 1, h => by
    cases h with
    | cons r1 r2 =>
      obtain ⟨n, h1, h2, h3⟩ := RpA.take k r2
      refine ⟨_, by simpa using RpA.cons r1 h1, fun a ha => ?_, fun nd => ?_⟩
      · rcases List.mem_append.mp ha with ha | ha
        · simp [ha]
        · simp [h2 a ha]
      · rw [List.nodup_append] at nd ⊢
        exact ⟨nd.1, h3 nd.2.1, fun a ha b hb => nd.2.2 a ha b (h2 b hb)⟩
theorem RpA.drop : ∀ {ds : List D} {vs : List V} {ns : List Addr} (k : Nat), RpA c W H vs ds ns → ∃ n1, RpA c W H (vs.drop k) (ds.drop k) n1 ∧ (∀ a ∈ n1, a ∈ ns) ∧ (ns.Nodup → n1.Nodup)
  | [], _, _, k, h => by cases h; exact ⟨[], by simpa using RpA.nil, by simp, fun _ => List.nodup_nil⟩
  | d :: ds, _, _, 0, h => ⟨_, h, fun _ h => h, fun h => h⟩
  | d :: ds, _, _, k + 1, h => by
    cases h with
    | cons r1 r2 =>
      obtain ⟨n, h1, h2, h3⟩ := RpA.drop k r2
      refine ⟨n, by simpa using h1, fun a ha => by simp [h2 a ha], fun nd => h3 ?_⟩
      rw [List.nodup_append] at nd
      exact nd.2.1
/-- one item changed; the new node list -/
theorem RpA.set : ∀ {ds : List D} {vs : List V} {ns : List Addr} {i : Nat} {v : V} {d : D} {m : List Addr}, RpA c W H vs ds ns → i < ds.length → Rp c W H v d m →
    ∃ n1, RpA c W H (vs.set i v) (ds.set i d) n1 ∧ (∀ a ∈ n1, a ∈ ns ∨ a ∈ m) ∧ (ns.Nodup → m.Nodup → (∀ a ∈ m, a ∉ ns) → n1.Nodup)
  | [], _, _, i, _, _, _, h, l, _ => by simp at l
  | d0 :: ds, _, _, 0, v, d, m, h, _, r => by
    cases h with
    | @cons v0 vs' _ _ n1 n2 r1 r2 =>
      refine ⟨m ++ n2, by simpa using RpA.cons r r2, fun a ha => ?_, fun nd md di => ?_⟩
      · rcases List.mem_append.mp ha with ha | ha
        · exact .inr ha
        · exact .inl (by simp [ha])
      · rw [List.nodup_append] at nd ⊢
        refine ⟨md, nd.2.1, fun a ha b hb e => di a ha ?_⟩
        subst e; simp [hb]
  | d0 :: ds, _, _, i + 1, v, d, m, h, l, r => by
    cases h with
    | @cons v0 vs' _ _ n1 n2 r1 r2 =>
      obtain ⟨n, h1, h2, h3⟩ := RpA.set (i := i) r2 (by simpa using l) r
      refine ⟨n1 ++ n, by simpa using RpA.cons r1 h1, fun a ha => ?_, fun nd md di => ?_⟩
      · rcases List.mem_append.mp ha with ha | ha
        · exact .inl (by simp [ha])
        · rcases h2 a ha with z | z
          · exact .inl (by simp [z])
          · exact .inr z
      · rw [List.nodup_append] at nd ⊢
        refine ⟨nd.1, h3 nd.2.1 md (fun a ha z => di a ha (by simp [z])), fun a ha b hb => ?_⟩
        rcases h2 b hb with z | z
        · exact nd.2.2 a ha b z
        · rintro rfl
          exact di _ z (by simp [ha])
end

/-! ### contracts: no display (repr of a container) is running around -/
structure FnG (P : Program) (w : World) (K : PySem.W.Frag) (mg : Str → Option Value) (base : Heap) (k : Nat) (f : Addr) (fd : FuncData) (ps : List Str) (sp : Sp) : Prop where
  len : ∀ vs H Q E, sp vs H Q E → vs.length = ps.length
  run : ∀ (A : Around) (outer : List Env) (s : Shared) (H : Hp) (args : Args) (us : List Value) (vs : List V) (Q : VK) (E : XK), Room k A → A.guards = some [] →
    Env0 P w K mg base A outer s H → BindsTo s fd args (ps.zip us) → Vals vs us → sp vs H Q E → codeAny (model P w) A (.call (.ref f) args) (CR (CX P w) outer P w H s Q E) s
section
variable {P : Program} {w : World} {K : PySem.W.Frag} {mg : Str → Option Value} {base : Heap} {f : Addr} {fd : FuncData} {ps : List Str} {sp sp' : Sp}
theorem FnG.mono {j k : Nat} (F : FnG P w K mg base j f fd ps sp) (h : j ≤ k) : FnG P w K mg base k f fd ps sp :=
  ⟨F.len, fun A outer s H args us vs Q E hr => F.run A outer s H args us vs Q E (hr.mono h)⟩
theorem FnG.imp {k : Nat} (F : FnG P w K mg base k f fd ps sp) (h : ∀ vs H Q E, sp' vs H Q E → sp vs H Q E) : FnG P w K mg base k f fd ps sp' :=
  ⟨fun vs H Q E q => F.len vs H Q E (h _ _ _ _ q), fun A outer s H args us vs Q E hr hg he hb hv hs => F.run A outer s H args us vs Q E hr hg he hb hv (h _ _ _ _ hs)⟩
theorem FnG.of {k : Nat} (F : FnOk P w K mg base (CX P w) k f fd ps sp) : FnG P w K mg base k f fd ps sp :=
  ⟨F.len, fun A outer s H args us vs Q E hr _ => F.run A outer s H args us vs Q E hr⟩
end
end Ev

set_option Elab.async false
set_option linter.all false
set_option maxRecDepth 100000
set_option maxHeartbeats 4000000
/-! # EvB: a def's body keeps its contract; calls by contract; the end of a law -/
namespace Ev
open PySem PySem.Spec PyProof.Rows L2

/-- the body of a def, with the fact that no display runs -/
theorem fnG_of {P : Program} {w : World} {K : PySem.W.Frag} {mg : Str → Option Value} {base : Heap} {k : Nat} {x qual : Str} {st : Stmt} {f : Addr} {fd : FuncData} {N ps : List Str} {sp : Sp}
    (F : Fun K x qual st f fd) (S : FnScope N ps (defScope st)) (len : ∀ vs H Q E, sp vs H Q E → vs.length = ps.length)
    (go : ∀ (cdv : Value) (A : Around) (outer : List Env) (s : Shared) (H : Hp) (vs : List V) (Q : VK) (E : XK),
      Room k (A.deeper (envOfC qual (defScope st) s.heap.objs.size f cdv)) → A.guards = some [] → sp vs H Q E →
      ∃ t, PSs (cxOf (CX P w) P w K mg base N qual (defScope st) f cdv A outer s H E) (defBody st) t ∧ t { nx := fun _ H' => Q .non H', rt := Q } (start N vs) H) :
    FnG P w K mg base (k + 1) f fd ps sp := by
  obtain ⟨oc, od, kV, doc, pm, an, cdv, ct, osl, rfl, lk, hcd⟩ := F.ex
  refine ⟨len, ?_⟩
  intro A outer s H args us vs Q E room gd env bind rel wish
  have nvs : vs.length = ps.length := len vs H Q E wish
  have inK : K.In s.heap := env.mod.kin.keeps fun b o e => (env.bs b o e).1
  have lim : s.heap.NoLimit := env.mod.nolimit.keeps fun b o e => (env.bs b o e).1
  -- the parameters are locals or cells
  have kinds : ∀ y ∈ ps.zip us, (defScope st).names.lookup y.1 = some .local ∨ ((defScope st).names.lookup y.1 = some .cell ∧ ((cellsFrom (s.heap.objs.size + 1) (defScope st).names []).lookup y.1).isSome = true) := by
    intro y hy
    have hm : y.1 ∈ ps := (List.of_mem_zip (show (y.1, y.2) ∈ ps.zip us from hy)).1
    cases S.par y.1 hm with
    | inl q => exact Or.inl q
    | inr q => exact Or.inr ⟨q, PySem.W.cellsFrom_some _ _ _ (.inl q)⟩
  apply codeAny_call_function room.depth (inK _ _ lk) rfl S.co S.gen rfl (PySem.W.codeRec_of inK hcd)
  apply bind
  apply wpAny_newFunctionEnv_cells S.kind kinds
  intro env' he s1 x
  subst he
  refine ⟨lim.keeps x.toInCall.keep, codeAny_func ?_⟩
  obtain ⟨t, ht, hq⟩ := go cdv A outer s H vs Q E (room.deeper _) gd wish
  have I := inv_start (CX := CX P w) (E := E) (cd := cdv) S room.hd env nvs rel x
  refine wpAny_mono (ht.run [] s1 (start N vs) H _ I hq) ?_ (fun e s' hs => hs)
  intro fl s' hs
  cases fl with
  | brk => obtain ⟨_, _, _, q⟩ := hs; exact q.elim
  | cont => obtain ⟨_, _, _, q⟩ := hs; exact q.elim
  | ret u =>
    obtain ⟨v, σ', H', J, rv, q⟩ := hs
    exact ⟨v, H', J.os, J.bare, J.base, J.hok, rv, q⟩
  | next =>
    obtain ⟨σ', H', J, q⟩ := hs
    exact ⟨.non, H', J.os, J.bare, J.base, J.hok, rfl, q⟩

/-! ### lists of arguments without a star -/
def noStar : Expr → Bool
  | .Starred _ _ => false
  | _ => true
theorem star_cons {e : Expr} {es : List Expr} {env : Env} (h : noStar e = true) : starEach (e :: es) env = (false, eval e env) :: starEach es env := by
  cases e <;> first | rfl | simp [noStar] at h
theorem star_plain {pos : Pos} {env : Env} : ∀ {es : List Expr}, es.all noStar = true → (backTo pos (starEach es env)).any (·.1) = false
  | [], _ => rfl
  | e :: es, h => by
    simp only [List.all_cons, Bool.and_eq_true] at h
    have ih := star_plain (pos := pos) (env := env) h.2
    rw [star_cons h.1]
    exact ih

section
variable {X : Cx} {Wx : WX} {k : Nat} {f : Addr} {fd : FuncData} {ps ks : List Str} {sp : Sp} {x : Str} {p pos : Pos} {e : Expr} {es : List Expr} {kws : List Keyword} {t tk : TA}

/-- a callee runs; what it raises is wished for at the slots that stand -/
theorem runG {pins : List (Addr × Obj)} {σ : L2.St} {H : Hp} {s : Shared} {Q : VK} {us : List Value} {kw : List (Str × Value)} {bs : List Value} {vs : List V} (F : FnG X.prog X.w X.K X.mg X.base k f fd ps sp) (hr : Room k X.A) (hg : X.A.guards = some [])
    (hb : BindsTo s fd ⟨us, kw⟩ (ps.zip bs)) (tk : Takes X Wx) (I : Inv X pins σ H s) (r : Vals vs bs) (h : sp vs H Q (fun c d H' => Wx c d σ H')) : wpAny (model X.prog X.w) X.A (call (.ref f) us kw) (EP X pins σ Q) X.xe s := by
  apply wpAny_call
  refine codeAny_mono (F.run X.A X.stack s H ⟨us, kw⟩ bs vs Q _ hr hg I.env0 hb r h) ?_
  intro res s' hq
  match res, hq with
  | .error e, hq => exact tk e s' (XE.of_call I (fun _ _ _ z => z) hq)
  | .ok (.ret u), hq => exact I.after hq
  | .ok .next, hq => exact hq.elim
  | .ok .brk, hq => exact hq.elim
  | .ok .cont, hq => exact hq.elim

/-- f(e, ..) -/
def tCallG (sp : Sp) (Wx : WX) (t : TA) : TE := fun σ H Q => t σ H fun vs H1 => sp vs H1 Q (fun c d H' => Wx c d σ H')
theorem binds_of (F : FnG X.prog X.w X.K X.mg X.base k f fd ps sp) (hb : Binds X.K fd ps []) {pins : List (Addr × Obj)} {σ : L2.St} {H : Hp} {s : Shared} {vs : List V} {us : List Value} {Q : VK} {E : XK} (I : Inv X pins σ H s) (r : Vals vs us) (h : sp vs H Q E) :
    BindsTo s fd ⟨us, []⟩ (ps.zip us) := by
  have hl : us.length = ps.length := by rw [← r.length]; exact F.len _ _ _ _ h
  have := hb s us I.kIn (by simpa using hl)
  simpa using this
theorem peG_call (F : FnG X.prog X.w X.K X.mg X.base k f fd ps sp) (hr : Room k X.A) (hgd : X.A.guards = some []) (hg : Gl X x) (hm : X.mg x = some (.ref f)) (hk : PySem.W.keepIn X.K (.ref f) = true) (hb : Binds X.K fd ps [])
    (tk : Takes X Wx) (ha : PA X (e :: es) t) (hdb : (x == ("__debug__" : Str)) = false) (hst : (e :: es).all noStar = true) :
    PE X (.Call (.Name x p) (e :: es) [] pos) (tCallG sp Wx t) := by
  constructor
  intro pins s σ H Q I h
  apply wpAny_Call_Name_kw
  refine ld_glob I hg hm ?_ hdb
  simp only [List.all_cons, Bool.and_eq_true] at hst
  refine PySem.W.callWith_K (h₀ := X.base) I.ok.mod.kin hk ?_ (star_cons hst.1) (star_plain hst.2)
  refine thn (ha.run pos pins s σ H _ I h) ?_
  rintro us s1 ⟨vs, H1, I1, r, q⟩
  exact ⟨I1.kIn, runG F hr hgd (binds_of F hb I1 r q) tk I1 r q⟩
theorem peG_call0 (F : FnG X.prog X.w X.K X.mg X.base k f fd ps sp) (hr : Room k X.A) (hgd : X.A.guards = some []) (hg : Gl X x) (hm : X.mg x = some (.ref f)) (hk : PySem.W.keepIn X.K (.ref f) = true) (hb : Binds X.K fd ps [])
    (tk : Takes X Wx) (hdb : (x == ("__debug__" : Str)) = false) : PE X (.Call (.Name x p) [] [] pos) (tCallG sp Wx tNil) := by
  constructor
  intro pins s σ H Q I h
  apply wpAny_Call_Name_kw
  refine ld_glob I hg hm ?_ hdb
  exact PySem.W.callWith_K0 I.kIn hk (runG (us := []) F hr hgd (binds_of F hb I .nil h) tk I .nil h)
end
end Ev

set_option Elab.async false
set_option linter.all false
set_option maxRecDepth 100000
set_option maxHeartbeats 4000000
/-! # EvC: an own small syntax, and what must hold so that it comes to a wanted end (plain trees alone) -/
namespace Ev
open PySem PySem.Spec PyProof.Rows L2

/-! ### trees as data -/
mutual
def D.py : D → PyData
  | .non => .none
  | .bl b => .bool b
  | .int i => .int i
  | .str s => .str s
  | .tup ds => .tuple (pyAll ds)
  | .lst ds => .list (pyAll ds)
  | .fz ds => .list (pyAll ds)
  | .fn _ => .none
  | .wel => .none
  | .dic kvs => .dict (kvs.map fun p => (.str p.1, .int p.2))
def pyAll : List D → List PyData
  | [] => []
  | d :: ds => D.py d :: pyAll ds
end
mutual
/-- data without dicts, defs, wells -/
def D.dat : D → Bool
  | .tup ds => datAll ds
  | .lst ds => datAll ds
  | .fz ds => datAll ds
  | .fn _ => false
  | .wel => false
  | .dic _ => false
  | .str s => PyData.strOk s
  | _ => true
def datAll : List D → Bool
  | [] => true
  | d :: ds => D.dat d && datAll ds
end
mutual
/-- data, empty dicts too -/
def D.rdt : D → Bool
  | .tup ds => rdtAll ds
  | .lst ds => rdtAll ds
  | .fz ds => rdtAll ds
  | .fn _ => false
  | .wel => false
  | .dic kvs => kvs.isEmpty
  | .str s => PyData.strOk s
  | _ => true
def rdtAll : List D → Bool
  | [] => true
  | d :: ds => D.rdt d && rdtAll ds
end
mutual
theorem rdt_of_dat : ∀ d : D, d.dat = true → d.rdt = true
  | .non, _ => rfl
  | .bl _, _ => rfl
  | .int _, _ => rfl
  | .str s, h => by simpa [D.dat, D.rdt] using h
  | .tup ds, h => by simpa [D.rdt] using rdtAll_of_dat ds (by simpa [D.dat] using h)
  | .lst ds, h => by simpa [D.rdt] using rdtAll_of_dat ds (by simpa [D.dat] using h)
  | .fz ds, h => by simpa [D.rdt] using rdtAll_of_dat ds (by simpa [D.dat] using h)
  | .fn _, h => by simp [D.dat] at h
  | .wel, h => by simp [D.dat] at h
  | .dic _, h => by simp [D.dat] at h
theorem rdtAll_of_dat : ∀ ds : List D, datAll ds = true → rdtAll ds = true
  | [], _ => rfl
  | d :: ds, h => by
    simp only [datAll, Bool.and_eq_true] at h
    simp [rdtAll, rdt_of_dat d h.1, rdtAll_of_dat ds h.2]
end
mutual
def D.dep : D → Nat
  | .tup ds => depAll ds + 1
  | .lst ds => depAll ds + 1
  | .fz ds => depAll ds + 1
  | _ => 0
def depAll : List D → Nat
  | [] => 0
  | d :: ds => max (D.dep d) (depAll ds)
end
mutual
/-- how many signs the text of a tree has at most; 0 at ints beyond a line -/
def D.sgn : D → Nat
  | .tup ds => sgnAll ds + 4
  | .lst ds => sgnAll ds + 4
  | .fz ds => sgnAll ds + 4
  | .int i => if i.natAbs.log2 < 1900 then i.natAbs.log2 + 4 else 20000000
  | .str s => 10 * s.length + 4
  | _ => 6
def sgnAll : List D → Nat
  | [] => 0
  | d :: ds => D.sgn d + 2 + sgnAll ds
end
/-- what == asks of a side -/
def D.eqOk (d : D) : Prop := d.dat = true ∧ d.dep ≤ 60
def eqD (x y : D) : Bool := PyData.eqv x.py y.py
def D.rpOk (d : D) : Prop := d.rdt = true ∧ d.dep ≤ 60 ∧ d.sgn ≤ 16000000
def frp (d : D) : Nat := if d.pure = true then 2 else 0
def D.flat : D → Bool
  | .non => true
  | .bl _ => true
  | .int _ => true
  | .str _ => true
  | _ => false

/-! ### the syntax -/
inductive Bo where
  | add | sub | mul | mod | fdv | pow
  deriving DecidableEq
inductive Co where
  | eq | ne | lt | le | gt | ge | isN | notN | inn | nin | ltT
  deriving DecidableEq
inductive Pr where
  | len | abs | max2 | min2 | maxl | minl | sum | all | any | sorted | sortp | list | tuple | int | str | repr | gcd | divmod
  deriving DecidableEq
inductive Ty where
  | int | bool | tuple | list | str
  deriving DecidableEq
inductive Tg where
  | nm (i : Nat) | tp (is : List Nat)
mutual
inductive Ex where
  | emp | dc1 (k : Str) (i : Int) | non | bl (b : Bool) | int (i : Int) | str (s : Str)
  | var (i : Nat)
  | cst (x : Str) (m : Nat)
  | fnc (x : Str) (g : Nat)
  | tup (es : Exs) | lst (es : Exs)
  | bin (o : Bo) (a b : Ex)
  | neg (a : Ex)
  | cmp (o : Co) (a b : Ex)
  | chn (o p : Co) (a b c : Ex)
  | ands (a : Ex) (es : Exs) | ors (a : Ex) (es : Exs) | nt (a : Ex)
  | ife (c a b : Ex)
  | idx (a i : Ex)
  | slc (a : Ex) (lo hi : Ox)
  | rev (a : Ex)
  | pur (a : Ex)
  | call (x : Str) (g : Nat) (es : Exs)
  | callk (x : Str) (m : Nat) (es ks : Exs)
  | callv (i : Nat) (es : Exs)
  | callw (x : Str) (g : Nat) (e : Ex)
  | lrg (es : Exs)
  | prim (p : Pr) (es : Exs)
  | isi (a : Ex) (t : Ty)
  | lc (own : List (Str × Nat)) (e : Ex) (t : Tg) (i : Ix) (c : Ox)
  | lc2 (own : List (Str × Nat)) (e : Ex) (t : Tg) (i : Ix) (c : Ox) (t2 : Tg) (i2 : Ix) (c2 : Ox)
inductive Exs where
  | nil | cons (e : Ex) (es : Exs) | star (e : Ex) (es : Exs)
inductive Ox where
  | no | ex (e : Ex)
inductive Ix where
  | seq (e : Ex) | rng (es : Exs) | enu (e : Ex) | zip (a b : Ex)
end

/-! ### ends -/
abbrev Slots := List (Option (D × Nat))
abbrev Wl := List D
/-- of an expression: the value, how new it is (2: all its lists are; 1: itself is), the well -/
abbrev KE := D → Nat → Wl → Prop
/-- of an exception: its class, what it was made with, the well -/
abbrev XQ := Nat → Option D → Wl → Prop
/-- a contract: arguments, the well, the wanted end, the wanted exception -/
abbrev Spc := List D → Wl → KE → XQ → Prop
abbrev Spc2 := List D → List D → Wl → KE → XQ → Prop
/-- the contracts: of defs; of calls with keywords (the places' values, the keywords' values); constants; defs that may be passed as values -/
structure Tab where
  fn : Nat → Spc
  kw : Nat → Spc2
  cs : Nat → D
  cv : Nat → Bool
  sub : Nat → Nat → Bool := fun _ _ => false
  er : Nat → Bool := fun _ => false
  fl : Nat → Str := fun _ => ""

def slot (ρ : Slots) (i : Nat) : Option (D × Nat) := (ρ[i]?).join

def asB (d : D) (k : Bool → Prop) : Prop := match d with
  | .bl b => k b
  | _ => False
/-- the items of a sequence -/
def items (d : D) : Option (List D) := match d with
  | .tup ds => some ds
  | .lst ds => some ds
  | .fz ds => some ds
  | _ => none
def asI (d : D) (k : Int → Prop) : Prop := match d with
  | .int i => k i
  | _ => False
def asS (d : D) (k : List D → Prop) : Prop := match items d with
  | some ds => k ds
  | none => False

/-- the items of a list -/
def itemsL (d : D) : Option (List D) := match d with
  | .lst ds => some ds
  | .fz ds => some ds
  | _ => none
def asL (d : D) (k : List D → Prop) : Prop := match itemsL d with
  | some ds => k ds
  | none => False

def D.isStr : D → Bool
  | .str _ => true
  | _ => false
def isNon : D → Bool
  | .non => true
  | _ => false
def intsOf : List D → Option (List Int)
  | [] => some []
  | .int i :: ds => (intsOf ds).map (i :: ·)
  | _ => none
def blsOf : List D → Option (List Bool)
  | [] => some []
  | .bl b :: ds => (blsOf ds).map (b :: ·)
  | _ => none

/-- the order of tuples of ints -/
def ltI (ns ms : List Int) : Bool := Ob.lexAt (fun j => decide (ns.getD j 0 = ms.getD j 0)) (fun j => decide (ns.getD j 0 < ms.getD j 0)) (decide (ns.length < ms.length)) 0 (min ns.length ms.length)
def pairD (p : Int × Int) : D := .tup [.int p.1, .int p.2]
def unpair : D → Int × Int
  | .tup [.int a, .int b] => (a, b)
  | _ => (0, 0)
theorem pureAll_all : ∀ {l : List D}, pureAll l = true ↔ ∀ d ∈ l, d.pure = true
  | [] => by simp [pureAll]
  | d :: l => by simp [pureAll, pureAll_all (l := l)]
def isLs : D → Bool
  | .lst _ => true
  | _ => false
/-- a sequence beside an empty one of its kind -/
def nilP : D → D → Bool
  | .lst _, .lst [] => true
  | .tup _, .tup [] => true
  | _, _ => false
def cop (o : Co) (x y : D) (k : Bool → Prop) : Prop := match o with
  | .eq => (x.eqOk ∧ y.eqOk ∨ x.isStr = true ∧ y.isStr = true ∨ nilP x y = true) ∧ k (eqD x y)
  | .ne => (x.eqOk ∧ y.eqOk ∨ x.isStr = true ∧ y.isStr = true ∨ nilP x y = true) ∧ k (!eqD x y)
  | .lt => asI x fun i => asI y fun j => k (decide (i < j))
  | .le => asI x fun i => asI y fun j => k (decide (i ≤ j))
  | .gt => asI x fun i => asI y fun j => k (decide (j < i))
  | .ge => asI x fun i => asI y fun j => k (decide (j ≤ i))
  | .isN => match x, y with
    | x, .non => k (isNon x)
    | .bl a, .bl b => k (decide (a = b))
    | _, _ => False
  | .notN => match x, y with
    | x, .non => k (!isNon x)
    | .bl a, .bl b => k (!decide (a = b))
    | _, _ => False
  | .inn => asS y fun ds => (x.flat = true ∧ ds.all D.flat = true ∨ x.eqOk ∧ y.eqOk ∧ isLs y = true) ∧ k (ds.any fun z => eqD z x)
  | .nin => asS y fun ds => (x.flat = true ∧ ds.all D.flat = true ∨ x.eqOk ∧ y.eqOk ∧ isLs y = true) ∧ k (!ds.any fun z => eqD z x)
  | .ltT => match x, y with
    | .tup xs, .tup ys => ∃ ns ms, intsOf xs = some ns ∧ intsOf ys = some ms ∧ k (ltI ns ms)
    | _, _ => False

def bop (o : Bo) (x y : D) (k : D → Nat → Prop) : Prop := match o, x, y with
  | .add, .int i, .int j => k (.int (i + j)) 2
  | .add, .str s, .str t => s.length + t.length ≤ 1000000 ∧ k (.str (s ++ t)) 2
  | .add, .tup a, .tup b => a.length + b.length ≤ 1000000 ∧ k (.tup (a ++ b)) (if pureAll a && pureAll b then 2 else 0)
  | .add, .lst a, .lst b => a.length + b.length ≤ 1000000 ∧ k (.lst (a ++ b)) (if pureAll a && pureAll b then 2 else 1)
  | .sub, .int i, .int j => k (.int (i - j)) 2
  | .mul, .int i, .int j => (CMul i j ∨ CMulW i j) ∧ k (.int (i * j)) 2
  | .mul, .lst a, .int j => -(2 ^ 62) ≤ j ∧ j < 2 ^ 62 ∧ a.length * j.toNat ≤ 1000000 ∧ k (.lst (List.replicate j.toNat a).flatten) (if pureAll a then 2 else 1)
  | .mul, .tup a, .int j => pureAll a = true ∧ -(2 ^ 62) ≤ j ∧ j ≤ 1000 ∧ a.length ≤ 1000 ∧ k (.tup (List.replicate j.toNat a).flatten) 2
  | .mod, .int i, .int j => 0 < j ∧ k (.int (i % j)) 2
  | .fdv, .int i, .int j => (0 < j ∧ (j < 1073741824 ∨ j.natAbs.log2 < 9000)) ∧ k (.int (i / j)) 2
  | .pow, .int i, .int j => CPow i j ∧ k (.int (i ^ j.toNat)) 2
  | _, _, _ => False

def isTy (t : Ty) (d : D) : Option Bool := match t, d with
  | .int, .int _ => some true
  | .int, .bl _ => some true
  | .bool, .bl _ => some true
  | .tuple, .tup _ => some true
  | .list, .lst _ => some true
  | .str, .str _ => some true
  | _, .fn _ => none
  | _, .wel => none
  | _, .fz _ => none
  | _, _ => some false

def prim (p : Pr) (ds : List D) (k : D → Nat → Prop) : Prop := match p, ds with
  | .len, [.str s] => s.length ≤ 1000000 ∧ k (.int s.length) 2
  | .len, [d] => asS d fun xs => k (.int xs.length) 2
  | .abs, [.int i] => k (.int (if i < 0 then -i else i)) 2
  | .max2, [.int i, .int j] => k (.int (if j > i then j else i)) 2
  | .min2, [.int i, .int j] => k (.int (if j < i then j else i)) 2
  | .maxl, [d] => asL d fun xs => ∃ ns, intsOf xs = some ns ∧ 0 < ns.length ∧ ∀ m, m ∈ ns → (∀ y, y ∈ ns → y ≤ m) → k (.int m) 2
  | .minl, [d] => asL d fun xs => ∃ ns, intsOf xs = some ns ∧ 0 < ns.length ∧ ∀ m, m ∈ ns → (∀ y, y ∈ ns → m ≤ y) → k (.int m) 2
  | .sum, [d] => asL d fun xs => ∃ ns, intsOf xs = some ns ∧ k (.int ns.sum) 2
  | .all, [.lst xs] => ∃ bs, blsOf xs = some bs ∧ k (.bl (bs.all id)) 2
  | .any, [.lst xs] => ∃ bs, blsOf xs = some bs ∧ k (.bl (bs.any id)) 2
  | .sorted, [d] => asL d fun xs => ∃ ns, intsOf xs = some ns ∧ ∀ ms : List Int, ms.Perm ns → ms.Pairwise (· ≤ ·) → k (.lst (ms.map D.int)) 2
  | .sortp, [d] => asL d fun xs => ∃ ps : List (Int × Int), xs = ps.map pairD ∧ ((∃ B : Int, ps.length < 64 ∧ (∀ p ∈ ps, TS.Bd B [p.1, p.2]) ∧
      ∀ qs : List (Int × Int), qs.Perm ps → qs.Pairwise (fun a b => TS.code B [a.1, a.2] ≤ TS.code B [b.1, b.2]) → k (.lst (qs.map pairD)) 2) ∨
      ∀ qs : List (Int × Int), qs.Perm ps → k (.lst (qs.map pairD)) 2)
  | .list, [d] => asS d fun xs => k (.lst xs) (if pureAll xs then 2 else 1)
  | .tuple, [.tup xs] => k (.tup xs) (if pureAll xs then 2 else 0)
  | .tuple, [.lst xs] => k (.tup xs) (if pureAll xs then 2 else 0)
  | .tuple, [.fz xs] => k (.tup xs) (if pureAll xs then 2 else 0)
  | .int, [.int i] => k (.int i) 2
  | .int, [.bl b] => k (.int (if b then 1 else 0)) 2
  | .str, [.int i] => i.natAbs.log2 < 1900 ∧ k (.str (toString i)) 2
  | .repr, [d] => d.rpOk ∧ k (.str (PyData.shown d.py)) 2
  | .gcd, [.int i, .int j] => k (.int (Nat.gcd i.natAbs j.natAbs : Nat)) 2
  | .divmod, [.int i, .int j] => CDiv i j ∧ k (.tup [.int (i / j), .int (i % j)]) 2
  | _, _ => False

/-- a part of a sequence -/
def cutD (xs : List D) (lo hi : Option Int) : List D := (xs.drop (HT.sIx xs.length 0 lo)).take (HT.sIx xs.length xs.length hi - HT.sIx xs.length 0 lo)

/-- names of a target -/
def tgl : Tg → List Nat
  | .nm i => [i]
  | .tp is => is
/-- a value bound to a target within a block: its lists are another's -/
def bindT (t : Tg) (d : D) (ρ : Slots) (k : Slots → Prop) : Prop := match t with
  | .nm i => k (ρ.set i (some (d, 0)))
  | .tp is => match d with
    | .tup ds => ds.length = is.length ∧ k ((is.zip ds).foldl (fun ρ p => ρ.set p.1 (some (p.2, 0))) ρ)
    | _ => False

/-- the items of a range, of enumerate, of zip -/
def rngD (lo : Int) (n : Nat) : List D := (List.range n).map fun i => D.int (lo + (i : Nat))
def rnbD (lo : Int) (n : Nat) : List D := (List.range n).map fun i => D.int (lo + (i : Nat) * (-1))
def enuD (ds : List D) : List D := (ds.zipIdx).map fun p => D.tup [.int (p.2 : Nat), p.1]
def zipD (as bs : List D) : List D := (as.zip bs).map fun p => D.tup [p.1, p.2]
def wipeS (ρ : Slots) : List Nat → Slots
  | [] => ρ
  | v :: vs => (wipeS ρ vs).set v none

/-- the turns of a comprehension: what is made so far, how new it is -/
abbrev KA := List D → Nat → Wl → Prop
def turns (f : D → List D → Nat → Wl → KA → Prop) : List D → List D → Nat → Wl → KA → Prop
  | [], acc, fr, w, k => k acc fr w
  | x :: xs, acc, fr, w, k => f x acc fr w fun acc' fr' w' => turns f xs acc' fr' w' k

section
variable (T : Tab)
mutual
def wE : Ex → Slots → Wl → KE → XQ → Prop
  | .emp, ρ, w, K, E => K (.dic []) 2 w
  | .dc1 k i, ρ, w, K, E => K (.dic [(k, i)]) 2 w
  | .non, ρ, w, K, E => K .non 2 w
  | .bl b, ρ, w, K, E => K (.bl b) 2 w
  | .int i, ρ, w, K, E => K (.int i) 2 w
  | .str s, ρ, w, K, E => K (.str s) 2 w
  | .var i, ρ, w, K, E => match slot ρ i with
    | some (d, _) => K d (frp d) w
    | none => False
  | .cst _ m, ρ, w, K, E => K (T.cs m) 2 w
  | .fnc _ g, ρ, w, K, E => K (.fn g) 2 w
  | .tup es, ρ, w, K, E => wEs es ρ w (fun ds fr w1 => ds.length ≤ 1000000 ∧ K (.tup ds) (if fr = 2 then 2 else 0) w1) E
  | .lst es, ρ, w, K, E => wEs es ρ w (fun ds fr w1 => ds.length ≤ 1000000 ∧ K (.lst ds) (if fr = 2 then 2 else 1) w1) E
  | .bin o a b, ρ, w, K, E => wE a ρ w (fun x _ w1 => wE b ρ w1 (fun y _ w2 => bop o x y fun d fr => K d fr w2) E) E
  | .neg a, ρ, w, K, E => wE a ρ w (fun x _ w1 => asI x fun i => K (.int (-i)) 2 w1) E
  | .cmp o a b, ρ, w, K, E => wE a ρ w (fun x _ w1 => wE b ρ w1 (fun y _ w2 => cop o x y fun z => K (.bl z) 2 w2) E) E
  | .chn o p a b c, ρ, w, K, E => wE a ρ w (fun x _ w1 => wE b ρ w1 (fun y _ w2 => cop o x y fun z =>
      if z = true then wE c ρ w2 (fun u _ w3 => cop p y u fun z' => K (.bl z') 2 w3) E else K (.bl false) 2 w2) E) E
  | .ands a es, ρ, w, K, E => wE a ρ w (fun x _ w1 => asB x fun z => if z = true then wAnd es ρ w1 K E else K (.bl false) 2 w1) E
  | .ors a es, ρ, w, K, E => wE a ρ w (fun x _ w1 => asB x fun z => if z = true then K (.bl true) 2 w1 else wOr es ρ w1 K E) E
  | .nt a, ρ, w, K, E => wE a ρ w (fun x _ w1 => asB x fun z => K (.bl (!z)) 2 w1) E
  | .ife c a b, ρ, w, K, E => wE c ρ w (fun x _ w1 => asB x fun z => if z = true then wE a ρ w1 K E else wE b ρ w1 K E) E
  | .idx a i, ρ, w, K, E => wE a ρ w (fun x _ w1 => wE i ρ w1 (fun y _ w2 => asI y fun j => match x with
      | .wel => match atI w2 j with
        | some d => d.pure = true ∧ K d 2 w2
        | none => False
      | _ => asS x fun ds => match atI ds j with
        | some d => K d (frp d) w2
        | none => False) E) E
  | .slc a lo hi, ρ, w, K, E => wE a ρ w (fun x _ w1 => wO lo ρ w1 (fun l w2 => wO hi ρ w2 (fun h w3 => match x with
      | .lst ds => K (.lst (cutD ds l h)) (if pureAll ds then 2 else 1) w3
      | .fz ds => K (.lst (cutD ds l h)) (if pureAll ds then 2 else 1) w3
      | .tup ds => K (.tup (cutD ds l h)) (if pureAll ds then 2 else 0) w3
      | _ => False) E) E) E
  | .rev a, ρ, w, K, E => wE a ρ w (fun x _ w1 => match x with
      | .lst ds => K (.lst ds.reverse) (if pureAll ds then 2 else 1) w1
      | .tup ds => K (.tup ds.reverse) (if pureAll ds then 2 else 0) w1
      | _ => False) E
  | .pur a, ρ, w, K, E => wE a ρ w (fun d _ w1 => d.pure = true ∧ K d 2 w1) E
  | .call _ g es, ρ, w, K, E => wEs es ρ w (fun ds _ w1 => T.fn g ds w1 (fun d fr w2 => K d (if d.pure = true then 2 else fr) w2) E) E
  | .callk _ m es ks, ρ, w, K, E => wEs es ρ w (fun ds _ w1 => wEs ks ρ w1 (fun ks _ w2 => T.kw m ds ks w2 (fun d fr w3 => K d (if d.pure = true then 2 else fr) w3) E) E) E
  | .callv i es, ρ, w, K, E => match slot ρ i with
    | some (.fn g, _) => T.cv g = true ∧ wEs es ρ w (fun ds _ w1 => T.fn g ds w1 (fun d fr w2 => K d (if d.pure = true then 2 else fr) w2) E) E
    | _ => False
  | .callw _ g e, ρ, w, K, E => wE e ρ w (fun d fr w1 => match d with
      | .lst ds => 1 ≤ fr ∧ pureAll ds = true ∧ T.fn g [.wel] ds (fun d _ _ => d.pure = true ∧ K d 2 w1) (fun _ _ _ => False)
      | _ => False) E
  | .lrg es, ρ, w, K, E => wEs es ρ w (fun ds _ w1 => match ds with
      | [.int n] => RgOk 0 n ∧ K (.lst (rngD 0 n.toNat)) 2 w1
      | [.int a, .int b] => RgOk a b ∧ K (.lst (rngD a (b - a).toNat)) 2 w1
      | _ => False) E
  | .prim p es, ρ, w, K, E => wEs es ρ w (fun ds _ w1 => prim p ds fun d fr => K d fr w1) E
  | .isi a t, ρ, w, K, E => wE a ρ w (fun x _ w1 => match isTy t x with
      | some b => K (.bl b) 2 w1
      | none => False) E
  | .lc own e t i c, ρ, w, K, E => wI i ρ w (fun xs w1 => turns (fun x acc fr w k => bindT t x (wipeS ρ (own.map (·.2))) fun ρ' =>
      wC c ρ' w fun b w' => if b = true then wE e ρ' w' (fun d q w'' => acc.length < 1000000 ∧ k (acc ++ [d]) (min fr q) w'') (fun _ _ _ => False) else k acc fr w') xs [] 2 w1
        (fun ds fr w2 => K (.lst ds) (if fr = 2 then 2 else 1) w2)) E
  | .lc2 own e t i c t2 i2 c2, ρ, w, K, E => wI i ρ w (fun xs w1 => turns (fun x acc fr w k => bindT t x (wipeS ρ (own.map (·.2))) fun ρ' =>
      wC c ρ' w fun b w' => if b = true then
        wI i2 ρ' w' (fun ys w2 => turns (fun y acc fr w k => bindT t2 y (wipeS ρ' (tgl t2)) fun ρ2 =>
          wC c2 ρ2 w fun b w' => if b = true then wE e ρ2 w' (fun d q w'' => acc.length < 1000000 ∧ k (acc ++ [d]) (min fr q) w'') (fun _ _ _ => False) else k acc fr w') ys acc fr w2 k) (fun _ _ _ => False)
        else k acc fr w') xs [] 2 w1
        (fun ds fr w2 => K (.lst ds) (if fr = 2 then 2 else 1) w2)) E
def wEs : Exs → Slots → Wl → (List D → Nat → Wl → Prop) → XQ → Prop
  | .nil, ρ, w, K, E => K [] 2 w
  | .cons e es, ρ, w, K, E => wE e ρ w (fun d fr w1 => wEs es ρ w1 (fun ds fs w2 => K (d :: ds) (min fr fs) w2) E) E
  | .star e es, ρ, w, K, E => wE e ρ w (fun d fr w1 => asS d fun xs => wEs es ρ w1 (fun ds fs w2 => K (xs ++ ds) (min (if pureAll xs then 2 else 0) fs) w2) E) E
def wAnd : Exs → Slots → Wl → KE → XQ → Prop
  | .nil, ρ, w, K, E => False
  | .cons a .nil, ρ, w, K, E => wE a ρ w K E
  | .cons a es, ρ, w, K, E => wE a ρ w (fun x _ w1 => asB x fun z => if z = true then wAnd es ρ w1 K E else K (.bl false) 2 w1) E
  | .star _ _, ρ, w, K, E => False
def wOr : Exs → Slots → Wl → KE → XQ → Prop
  | .nil, ρ, w, K, E => False
  | .cons a .nil, ρ, w, K, E => wE a ρ w K E
  | .cons a es, ρ, w, K, E => wE a ρ w (fun x _ w1 => asB x fun z => if z = true then K (.bl true) 2 w1 else wOr es ρ w1 K E) E
  | .star _ _, ρ, w, K, E => False
def wO : Ox → Slots → Wl → (Option Int → Wl → Prop) → XQ → Prop
  | .no, ρ, w, K, E => K none w
  | .ex e, ρ, w, K, E => wE e ρ w (fun d _ w1 => asI d fun i => K (some i) w1) E
def wC : Ox → Slots → Wl → (Bool → Wl → Prop) → Prop
  | .no, ρ, w, K => K true w
  | .ex e, ρ, w, K => wE e ρ w (fun d _ w1 => asB d fun b => K b w1) fun _ _ _ => False
def wI : Ix → Slots → Wl → (List D → Wl → Prop) → XQ → Prop
  | .seq e, ρ, w, K, E => wE e ρ w (fun d _ w1 => asS d fun xs => K xs w1) E
  | .rng es, ρ, w, K, E => wEs es ρ w (fun ds _ w1 => match ds with
      | [.int n] => -(2 ^ 60) ≤ n ∧ n < 2 ^ 60 ∧ K (rngD 0 n.toNat) w1
      | [.int a, .int b] => (-(2 ^ 60) ≤ a ∧ a < 2 ^ 60 ∧ -(2 ^ 60) ≤ b ∧ b < 2 ^ 60) ∧ K (rngD a (b - a).toNat) w1
      | [.int a, .int b, .int s] => (s = -1 ∧ -(2 ^ 60) ≤ a ∧ a < 2 ^ 60 ∧ -(2 ^ 60) ≤ b ∧ b < 2 ^ 60) ∧ K (rnbD a (a - b).toNat) w1
      | _ => False) E
  | .enu e, ρ, w, K, E => wE e ρ w (fun d _ w1 => asS d fun xs => K (enuD xs) w1) E
  | .zip a b, ρ, w, K, E => wE a ρ w (fun x _ w1 => wE b ρ w1 (fun y _ w2 => asS x fun xs => asS y fun ys => K (zipD xs ys) w2) E) E
end
end
end Ev

set_option Elab.async false
set_option linter.all false
set_option maxRecDepth 100000
set_option maxHeartbeats 4000000
/-! # EvD: statements -/
namespace Ev
open PySem PySem.Spec PyProof.Rows L2

/-! ### the slots that an expression reads -/
mutual
def fvE : Ex → List Nat
  | .var i => [i]
  | .tup es => fvEs es
  | .lst es => fvEs es
  | .bin _ a b => fvE a ++ fvE b
  | .neg a => fvE a
  | .cmp _ a b => fvE a ++ fvE b
  | .chn _ _ a b c => fvE a ++ (fvE b ++ fvE c)
  | .ands a es => fvE a ++ fvEs es
  | .ors a es => fvE a ++ fvEs es
  | .nt a => fvE a
  | .ife c a b => fvE c ++ (fvE a ++ fvE b)
  | .idx a i => fvE a ++ fvE i
  | .slc a lo hi => fvE a ++ (fvO lo ++ fvO hi)
  | .rev a => fvE a
  | .call _ _ es => fvEs es
  | .callk _ _ es ks => fvEs es ++ fvEs ks
  | .callv i es => i :: fvEs es
  | .callw _ _ e => fvE e
  | .lrg es => fvEs es
  | .prim _ es => fvEs es
  | .isi a _ => fvE a
  | .lc _ e _ i c => fvI i ++ (fvE e ++ fvO c)
  | .lc2 _ e _ i c _ i2 c2 => fvI i ++ (fvI i2 ++ (fvE e ++ (fvO c ++ fvO c2)))
  | _ => []
def fvEs : Exs → List Nat
  | .nil => []
  | .cons e es => fvE e ++ fvEs es
  | .star e es => fvE e ++ fvEs es
def fvO : Ox → List Nat
  | .no => []
  | .ex e => fvE e
def fvI : Ix → List Nat
  | .seq e => fvE e
  | .rng es => fvEs es
  | .enu e => fvE e
  | .zip a b => fvE a ++ fvE b
end

/-! ### the syntax of statements -/
/-- targets of a tuple: a name; an item of a list that is one's own, of the well -/
inductive Tt where
  | nm (i : Nat) | sb (i : Nat) (ix : Ex)
/-- what an except suite does: return True or False -/
inductive Hk where
  | ret (b : Bool)
  | isS (n : Str) (i : Nat) (y : Str) (h : Nat) (s1 s2 : Str)
  | tag (n : Str) (i : Nat) (f s : Str)
  | tagR (n : Str) (i : Nat) (f s : Str)
mutual
inductive Sm where
  | set (i : Nat) (e : Ex) | setc (i : Nat) (e : Ex)
  | par (i j : Nat) (a b : Ex) | par3 (i j l : Nat) (a b c : Ex)
  | tset (ts : List Tt) (e : Ex)
  | sub (i : Nat) (ix e : Ex) | sub2 (i : Nat) (ix jx e : Ex)
  | aug (i : Nat) (neg : Bool) (e : Ex)
  | app (i : Nat) (e : Ex) | appm (i j : Nat)
  | asb (i : Nat) (neg : Bool) (ix e : Ex)
  | pop (j i : Nat) (e : Ex)
  | expr (e : Ex)
  | ret (e : Ex) | retv (i : Nat) | retN
  | iff (c : Ex) (a b : Sms)
  | forr (t : Tg) (i : Ix) (b : Sms)
  | whl (c : Ex) (b : Sms)
  | rse (x : Str) (g : Nat) (es : Exs)
  | ins (i : Nat) (ix e : Ex)
  | tryx (b : Sms) (x : Str) (h : Nat) (r : Hk)
  | pas | brk | cnt | never
inductive Sms where
  | nil | cons (s : Sm) (ss : Sms)
end

structure Po where
  nx : Slots → Wl → Prop
  rt : KE
  bk : Slots → Wl → Prop := fun _ _ => False
  ct : Slots → Wl → Prop := fun _ _ => False

/-- what is read by others is one's own no more -/
def dg : List Nat → Slots → Slots
  | [], ρ => ρ
  | i :: is, ρ => dg is (match slot ρ i with
    | some (d, _) => if d.pure = true then ρ else ρ.set i (some (d, 0))
    | none => ρ)
/-- a value is stored -/
def sto (fvs : List Nat) (i : Nat) (d : D) (fr : Nat) (ρ : Slots) : Slots :=
  if d.pure = true ∨ fr = 2 then ρ.set i (some (d, 2)) else (dg fvs ρ).set i (some (d, fr))
/-- a value is put into the list at slot i -/
def putIn (fvs : List Nat) (i : Nat) (ds : List D) (o : Nat) (d : D) (fr : Nat) (ρ : Slots) (k : Slots → Prop) : Prop :=
  if d.pure = true ∨ fr = 2 then k (ρ.set i (some (.lst ds, o))) else i ∉ fvs ∧ k ((dg fvs ρ).set i (some (.lst ds, min o 1)))

/-- x[j] = d -/
def subS (fvs : List Nat) (i : Nat) (j : Int) (d : D) (fr : Nat) (ρ : Slots) (w : Wl) (k : Slots → Wl → Prop) : Prop :=
  match slot ρ i with
  | some (.wel, _) => d.pure = true ∧ match ixN w.length j with
    | some n => k ρ (w.set n d)
    | none => False
  | some (.lst ds, o) => 1 ≤ o ∧ match ixN ds.length j with
    | some n => putIn fvs i (ds.set n d) o d fr ρ fun ρ' => k ρ' w
    | none => False
  | _ => False

section
variable (T : Tab)
/-- several targets, one after another -/
def tsS (fr : Nat) : List Tt → List D → Slots → Wl → (Slots → Wl → Prop) → XQ → Prop
  | [], [], ρ, w, k, E => k ρ w
  | .nm i :: ts, d :: ds, ρ, w, k, E => tsS fr ts ds (ρ.set i (some (d, if d.pure = true ∨ fr = 2 then 2 else 0))) w k E
  | .sb i ix :: ts, d :: ds, ρ, w, k, E => d.pure = true ∧ (slot ρ i).isSome = true ∧ wE T ix ρ w (fun y _ w1 => asI y fun j => subS [] i j d 2 ρ w1 fun ρ' w' => tsS fr ts ds ρ' w' k E) E
  | _, _, _, _, _, _ => False
def forS (f : D → Slots → Wl → Po → Prop) (P : Po) : List D → Slots → Wl → Prop
  | [], ρ, w => P.nx ρ w
  | x :: xs, ρ, w => f x ρ w { P with nx := forS f P xs, ct := forS f P xs, bk := P.nx }
def whlS (c : Slots → Wl → (Bool → Wl → Prop) → Prop) (f : Slots → Wl → Po → Prop) (P : Po) : Nat → Slots → Wl → Prop
  | 0, _, _ => False
  | n + 1, ρ, w => c ρ w fun b w1 => if b = true then f ρ w1 { P with nx := whlS c f P n, ct := whlS c f P n, bk := P.nx } else P.nx ρ w1

/-- what an except suite comes to -/
def hkR (T : Tab) (r : Hk) (g : Nat) (od : Option D) (k : D → Nat → Prop) : Prop := match r with
  | .ret b => k (.bl b) 2
  | .isS _ _ _ h s1 s2 => od = none ∧ k (.str (if T.sub g h = true then s1 else s2)) 2
  | .tag _ _ f s => T.fl g = f ∧ match od with
    | some d => k (.tup [.str s, d]) (if d.pure = true then 2 else 0)
    | none => False
  | .tagR _ _ f s => T.fl g = f ∧ match od with
    | some d => d.rpOk ∧ k (.tup [.str s, .str (PyData.shown d.py)]) 2
    | none => False
mutual
def wS : Sm → Slots → Wl → Po → XQ → Prop
  | .set i e, ρ, w, P, E => wE T e ρ w (fun d fr w1 => P.nx (sto (fvE e) i d fr ρ) w1) E
  | .setc i e, ρ, w, P, E => wE T e ρ w (fun d fr w1 => P.nx (sto (fvE e) i d fr ρ) w1) E
  | .par i j a b, ρ, w, P, E => wE T a ρ w (fun x fx w1 => wE T b ρ w1 (fun y fy w2 => P.nx (sto (fvE a) i x fx (sto (fvE b) j y fy ρ)) w2) E) E
  | .par3 i j l a b c, ρ, w, P, E => wE T a ρ w (fun x fx w1 => wE T b ρ w1 (fun y fy w2 => wE T c ρ w2 (fun z fz w3 => P.nx (sto (fvE a) i x fx (sto (fvE b) j y fy (sto (fvE c) l z fz ρ))) w3) E) E) E
  | .tset ts e, ρ, w, P, E => wE T e ρ w (fun d fr w1 => match d with
    | .tup ds => ds.length = ts.length ∧ tsS T fr ts ds (if d.pure = true ∨ fr = 2 then ρ else dg (fvE e) ρ) w1 P.nx E
    | _ => False) E
  | .sub i ix e, ρ, w, P, E => wE T e ρ w (fun d fr w1 => (slot ρ i).isSome = true ∧ wE T ix ρ w1 (fun y _ w2 => asI y fun j => subS (fvE e) i j d fr ρ w2 P.nx) E) E
  | .sub2 i ix jx e, ρ, w, P, E => wE T e ρ w (fun d _ w1 => d.pure = true ∧ match slot ρ i with
      | some (.lst ds, 2) => wE T ix ρ w1 (fun x _ w2 => asI x fun a => match ixN ds.length a with
        | some m => match ds[m]? with
          | some (.lst es) => wE T jx ρ w2 (fun y _ w3 => asI y fun b => match ixN es.length b with
            | some n => P.nx (ρ.set i (some (.lst (ds.set m (.lst (es.set n d))), 2))) w3
            | none => False) E
          | _ => False
        | none => False) E
      | _ => False) E
  | .aug i neg e, ρ, w, P, E => match slot ρ i with
    | some (.int a, _) => wE T e ρ w (fun d _ w1 => asI d fun b => P.nx (ρ.set i (some (.int (if neg = true then a - b else a + b), 2))) w1) E
    | _ => False
  | .app i e, ρ, w, P, E => match slot ρ i with
    | some (.lst ds, o) => 1 ≤ o ∧ wE T e ρ w (fun d fr w1 => ds.length < 1000000 ∧ putIn (fvE e) i (ds ++ [d]) o d fr ρ fun ρ' => P.nx ρ' w1) E
    | _ => False
  | .appm i j, ρ, w, P, E => match slot ρ i, slot ρ j with
    | some (.lst ds, o), some (d, 2) => 1 ≤ o ∧ i ≠ j ∧ ds.length < 1000000 ∧ P.nx ((ρ.set j none).set i (some (.lst (ds ++ [d]), o))) w
    | _, _ => False
  | .asb i neg ix e, ρ, w, P, E => match slot ρ i with
    | some (.wel, _) => wE T ix ρ w (fun y _ w1 => asI y fun j => match atI w1 j with
      | some (.int a) => wE T e ρ w1 (fun d _ w2 => asI d fun b => subS [] i j (.int (if neg = true then a - b else a + b)) 2 ρ w2 P.nx) E
      | _ => False) E
    | some (.lst ds, o) => wE T ix ρ w (fun y _ w1 => asI y fun j => match atI ds j with
      | some (.int a) => wE T e ρ w1 (fun d _ w2 => asI d fun b => subS [] i j (.int (if neg = true then a - b else a + b)) 2 ρ w2 P.nx) E
      | _ => False) E
    | _ => False
  | .pop j i e, ρ, w, P, E => match slot ρ i with
    | some (.lst ds, o) => 1 ≤ o ∧ i ≠ j ∧ wE T e ρ w (fun x _ w1 => asI x fun z => -(2 ^ 62) ≤ z ∧ z < 2 ^ 62 ∧ match ixN ds.length z with
      | some n => match ds[n]? with
        | some d => P.nx ((ρ.set i (some (.lst (ds.eraseIdx n), o))).set j (some (d, if d.pure = true then 2 else if o = 2 then 2 else 0))) w1
        | none => False
      | none => False) E
    | _ => False
  | .expr e, ρ, w, P, E => wE T e ρ w (fun _ _ w1 => P.nx ρ w1) E
  | .ret e, ρ, w, P, E => wE T e ρ w (fun d fr w1 => P.rt d fr w1) E
  | .retv i, ρ, w, P, E => match slot ρ i with
    | some (d, o) => P.rt d (if d.pure = true then 2 else o) w
    | none => False
  | .retN, ρ, w, P, E => P.rt .non 2 w
  | .iff c a b, ρ, w, P, E => wE T c ρ w (fun x _ w1 => asB x fun z => if z = true then wSs a ρ w1 P E else wSs b ρ w1 P E) E
  | .forr t i b, ρ, w, P, E => wI T i ρ w (fun xs w1 => forS (fun x ρ w P' => bindT t x ρ fun ρ' => wSs b ρ' w P' E) P xs (dg (fvI i) ρ) w1) E
  | .whl c b, ρ, w, P, E => ∃ n, whlS (fun ρ w k => wE T c ρ w (fun x _ w1 => asB x fun z => k z w1) E) (fun ρ w P' => wSs b ρ w P' E) P n ρ w
  | .rse _ g es, ρ, w, P, E => wEs T es ρ w (fun ds _ w1 => match ds with
    | [] => E g none w1
    | [d] => E g (some d) w1
    | _ => False) E
  | .ins i ix e, ρ, w, P, E => match slot ρ i with
    | some (.lst ds, o) => 1 ≤ o ∧ wE T ix ρ w (fun y _ w1 => asI y fun j => wE T e ρ w1 (fun d fr w2 => ds.length < 1000000 ∧ 0 ≤ j ∧ j < 2 ^ 62 ∧ putIn (fvE e) i (ds.take j.toNat ++ [d] ++ ds.drop j.toNat) o d fr ρ fun ρ' => P.nx ρ' w2) E) E
    | _ => False
  | .tryx b _ h r, ρ, w, P, E => wSs b ρ w P fun g od w' => T.er g = true ∧ if T.sub g h = true then hkR T r g od (fun d fr => P.rt d fr w') else E g od w'
  | .pas, ρ, w, P, E => P.nx ρ w
  | .brk, ρ, w, P, E => P.bk ρ w
  | .cnt, ρ, w, P, E => P.ct ρ w
  | .never, ρ, w, P, E => False
def wSs : Sms → Slots → Wl → Po → XQ → Prop
  | .nil, ρ, w, P, E => P.nx ρ w
  | .cons s ss, ρ, w, P, E => wS s ρ w { P with nx := fun ρ' w' => wSs ss ρ' w' P E } E
end
end
end Ev

set_option Elab.async false
set_option linter.all false
set_option maxRecDepth 100000
set_option maxHeartbeats 4000000
/-! # EvE: the judgements; what is carried from heap to heap -/
namespace Ev
open PySem PySem.Spec PyProof.Rows L2

/-- what a body knows of the text: its names by slot; names of defs, of keyword calls (with the keywords), of constants, of error classes; built-in names that stand for themselves; gcd -/
structure CC where
  N : List Str
  fs : List Str
  ks : List (Str × List Str)
  cs : List Str
  es : List (Str × Bool)
  bl : List Str
  gcd : Bool

/-- more of the written part: the classes of errors, by number: their addresses, the name of what they keep -/
structure Kx extends Kn where
  ca : Nat → Addr
  fld : Nat → Str

def Lv (ρ : Slots) (i : Nat) : Prop := ∃ d o, ρ[i]? = some (some (d, o))
def WOk (c : Kn) (Wo : Option Addr) (w : Wl) (H : Hp) : Prop := ∀ a, Wo = some a → ∃ xs, H a = some (.lst xs) ∧ RpA c Wo H xs w [] ∧ pureAll w = true
abbrev Ws (Wo : Option Addr) : List Addr := Wo.toList
theorem WOk.ls {c : Kn} {Wo : Option Addr} {w : Wl} {H : Hp} (h : WOk c Wo w H) : Ls H (Ws Wo) := fun a ha => by
  have e : Wo = some a := by simpa [Ws] using ha
  obtain ⟨xs, q, _⟩ := h a e
  exact ⟨xs, q⟩

/-- slots and well, as an expression sees them -/
structure SimE (c : Kn) (Wo : Option Addr) (nf : Nat → List Addr) (ρ : Slots) (w : Wl) (σ : L2.St) (H : Hp) : Prop where
  slot : ∀ i d o, ρ[i]? = some (some (d, o)) → ∃ v, σ[i]? = some (some v) ∧ Rp c Wo H v d (nf i)
  wok : WOk c Wo w H
  len : σ.length = ρ.length

theorem noW {c : Kn} {Wo : Option Addr} {H : Hp} {v : V} {d : D} {ns : List Addr} (r : Rp c Wo H v d ns) : ∀ a ∈ ns, a ∉ Ws Wo := fun a ha z => by
  have e : Wo = some a := by simpa [Ws] using z
  exact (Rp.there d r a ha).2 e
theorem noWA {c : Kn} {Wo : Option Addr} {H : Hp} {vs : List V} {ds : List D} {ns : List Addr} (r : RpA c Wo H vs ds ns) : ∀ a ∈ ns, a ∉ Ws Wo := fun a ha z => by
  have e : Wo = some a := by simpa [Ws] using z
  exact (RpA.there ds r a ha).2 e
section
variable {c : Kn} {Wo : Option Addr} {nf : Nat → List Addr} {ρ : Slots} {w w' : Wl} {σ : L2.St} {H H' H1 H2 : Hp} {v : V} {d : D} {ds : List D} {vs : List V} {ns : List Addr} {fr : Nat} {fv fv' : List Nat}
theorem Rp.kp (r : Rp c Wo H v d ns) (k : Kp (Ws Wo) H H') (l : Ls H (Ws Wo)) : Rp c Wo H' v d ns := r.keep d k l (noW r)
theorem RpA.kp (r : RpA c Wo H vs ds ns) (k : Kp (Ws Wo) H H') (l : Ls H (Ws Wo)) : RpA c Wo H' vs ds ns := r.keep ds k l (noWA r)
theorem SimE.step (S : SimE c Wo nf ρ w σ H) (k : Kp (Ws Wo) H H') (o : WOk c Wo w' H') : SimE c Wo nf ρ w' σ H' :=
  ⟨fun i d q e => by
    obtain ⟨v, h1, h2⟩ := S.slot i d q e
    exact ⟨v, h1, h2.kp k S.wok.ls⟩, o, S.len⟩

/-- an expression's outcome -/
structure Res (c : Kn) (Wo : Option Addr) (nf : Nat → List Addr) (ρ : Slots) (fv : List Nat) (H H' : Hp) (v : V) (d : D) (fr : Nat) (w' : Wl) (ns : List Addr) : Prop where
  rp : Rp c Wo H' v d ns
  kp : Kp (Ws Wo) H H'
  wok : WOk c Wo w' H'
  org : ∀ a ∈ ns, H a = none ∨ ∃ i ∈ fv, Lv ρ i ∧ a ∈ nf i
  f1 : 1 ≤ fr → ∀ es, d = .lst es → ∀ a m, ns = a :: m → H a = none ∧ a ∉ m
  f2 : 2 ≤ fr → ns.Nodup ∧ ∀ a ∈ ns, H a = none
/-- a list's outcome -/
structure ResA (c : Kn) (Wo : Option Addr) (nf : Nat → List Addr) (ρ : Slots) (fv : List Nat) (H H' : Hp) (vs : List V) (ds : List D) (fr : Nat) (w' : Wl) (ns : List Addr) : Prop where
  rp : RpA c Wo H' vs ds ns
  kp : Kp (Ws Wo) H H'
  wok : WOk c Wo w' H'
  org : ∀ a ∈ ns, H a = none ∨ ∃ i ∈ fv, Lv ρ i ∧ a ∈ nf i
  f2 : 2 ≤ fr → ns.Nodup ∧ ∀ a ∈ ns, H a = none
/-- an outcome without lists that may change -/
theorem Res.pur (r : Rp c Wo H' v d []) (k : Kp (Ws Wo) H H') (o : WOk c Wo w' H') : Res c Wo nf ρ fv H H' v d fr w' [] :=
  ⟨r, k, o, fun a h => by simp at h, fun _ _ _ a m h => by simp at h, fun _ => ⟨List.nodup_nil, fun a h => by simp at h⟩⟩
theorem Res.mono (r : Res c Wo nf ρ fv H H' v d fr w' ns) (h : ∀ i ∈ fv, i ∈ fv') : Res c Wo nf ρ fv' H H' v d fr w' ns :=
  ⟨r.rp, r.kp, r.wok, fun a ha => (r.org a ha).imp id fun ⟨i, hi, q⟩ => ⟨i, h i hi, q⟩, r.f1, r.f2⟩
/-- behind what went before -/
theorem Res.behind (k : Kp (Ws Wo) H H1) (r : Res c Wo nf ρ fv H1 H' v d fr w' ns) : Res c Wo nf ρ fv H H' v d fr w' ns :=
  ⟨r.rp, k.trans r.kp, r.wok, fun a ha => (r.org a ha).imp (k.dom a) id, fun f es e a m h => ⟨k.dom a (r.f1 f es e a m h).1, (r.f1 f es e a m h).2⟩, fun f => ⟨(r.f2 f).1, fun a ha => k.dom a ((r.f2 f).2 a ha)⟩⟩
theorem ResA.behind (k : Kp (Ws Wo) H H1) (r : ResA c Wo nf ρ fv H1 H' vs ds fr w' ns) : ResA c Wo nf ρ fv H H' vs ds fr w' ns :=
  ⟨r.rp, k.trans r.kp, r.wok, fun a ha => (r.org a ha).imp (k.dom a) id, fun f => ⟨(r.f2 f).1, fun a ha => k.dom a ((r.f2 f).2 a ha)⟩⟩
theorem Res.sim (r : Res c Wo nf ρ fv H H' v d fr w' ns) (S : SimE c Wo nf ρ w σ H) : SimE c Wo nf ρ w' σ H' := S.step r.kp r.wok
/-- a value's outcome, further on -/
theorem Res.later (r : Res c Wo nf ρ fv H H1 v d fr w ns) (k : Kp (Ws Wo) H1 H2) (o : WOk c Wo w' H2) : Res c Wo nf ρ fv H H2 v d fr w' ns :=
  ⟨r.rp.kp k r.wok.ls, r.kp.trans k, o, r.org, r.f1, r.f2⟩
end

/-- what is wanted of a value, brought to heaps -/
def LiftK (c : Kn) (Wo : Option Addr) (nf : Nat → List Addr) (ρ : Slots) (fv : List Nat) (H : Hp) (K : KE) (Q : VK) : Prop :=
  ∀ d fr w', K d fr w' → ∀ v ns H', Res c Wo nf ρ fv H H' v d fr w' ns → Q v H'
def LiftA (c : Kn) (Wo : Option Addr) (nf : Nat → List Addr) (ρ : Slots) (fv : List Nat) (H : Hp) (K : KA) (Q : List V → Hp → Prop) : Prop :=
  ∀ ds fr w', K ds fr w' → ∀ vs ns H', ResA c Wo nf ρ fv H H' vs ds fr w' ns → Q vs H'
/-- how an error lies in a heap; where the lists in what it keeps come from -/
def ExcAt (c : Kx) (Wo : Option Addr) (H : Hp) (g : Nat) (od : Option D) (dx : Option Addr) (Og : Addr → Prop) : Prop := match od with
  | none => dx = none
  | some d => ∃ a v ns, dx = some a ∧ H a = some (.xd [(c.fld g, v)]) ∧ Rp c.toKn Wo H v d ns ∧ ∀ b ∈ ns, Og b
theorem ExcAt.imp {c : Kx} {Wo : Option Addr} {H : Hp} {g : Nat} {od : Option D} {dx : Option Addr} {Og Og' : Addr → Prop} (h : ExcAt c Wo H g od dx Og) (i : ∀ b, Og b → Og' b) : ExcAt c Wo H g od dx Og' := by
  cases od with
  | none => exact h
  | some d =>
    obtain ⟨a, v, ns, h1, h2, h3, h4⟩ := h
    exact ⟨a, v, ns, h1, h2, h3, fun b hb => i b (h4 b hb)⟩
def LiftX (c : Kx) (Wo : Option Addr) (nf : Nat → List Addr) (ρ : Slots) (σ : L2.St) (H : Hp) (E : XQ) (Wx : WX) : Prop :=
  ∀ g od w', E g od w' → ∀ dx H', Kp (Ws Wo) H H' → WOk c.toKn Wo w' H' → ExcAt c Wo H' g od dx (fun a => H a = none ∨ ∃ i, Lv ρ i ∧ a ∈ nf i) → Wx (.ref (c.ca g)) dx σ H'
theorem LiftX.step {c : Kx} {Wo : Option Addr} {nf : Nat → List Addr} {ρ : Slots} {σ : L2.St} {H H' : Hp} {E : XQ} {Wx : WX} (l : LiftX c Wo nf ρ σ H E Wx) (k : Kp (Ws Wo) H H') : LiftX c Wo nf ρ σ H' E Wx :=
  fun g od w' e dx H2 k2 o x => l g od w' e dx H2 (k.trans k2) o (x.imp fun b h => h.imp (k.dom b) id)
theorem LiftX.no {c : Kx} {Wo : Option Addr} {nf : Nat → List Addr} {ρ : Slots} {σ : L2.St} {H : Hp} {Wx : WX} : LiftX c Wo nf ρ σ H (fun _ _ _ => False) Wx := fun _ _ _ e => e.elim

/-- an expression does what its reading over plain trees says -/
def SE (c : Kx) (X : Cx) (Wx : WX) (e : Expr) (fv : List Nat) (P : Slots → Wl → KE → XQ → Prop) : Prop :=
  ∃ t, PE X e t ∧ ∀ Wo nf ρ w σ H K E Q, SimE c.toKn Wo nf ρ w σ H → LiftK c.toKn Wo nf ρ fv H K Q → LiftX c Wo nf ρ σ H E Wx → P ρ w K E → t σ H Q
/-- a test -/
def STt (c : Kx) (X : Cx) (Wx : WX) (e : Expr) (P : Slots → Wl → KE → XQ → Prop) : Prop :=
  ∃ t, PT X e t ∧ ∀ Wo nf ρ w σ H (K : Bool → Wl → Prop) E (Q : Bool → Hp → Prop), SimE c.toKn Wo nf ρ w σ H →
    (∀ b w', K b w' → ∀ H', Kp (Ws Wo) H H' → WOk c.toKn Wo w' H' → Q b H') → LiftX c Wo nf ρ σ H E Wx → P ρ w (fun d _ w' => asB d fun b => K b w') E → t σ H Q
def SA (c : Kx) (X : Cx) (Wx : WX) (es : List Expr) (fv : List Nat) (P : Slots → Wl → KA → XQ → Prop) : Prop :=
  ∃ t, PA X es t ∧ ∀ Wo nf ρ w σ H K E Q, SimE c.toKn Wo nf ρ w σ H → LiftA c.toKn Wo nf ρ fv H K Q → LiftX c Wo nf ρ σ H E Wx → P ρ w K E → t σ H Q

/-- a def that stands, with its contract over plain trees -/
def spOf (c : Kx) (S : Spc) : Sp := fun vs H Q Ex =>
  ∃ (Wo : Option Addr) (w : Wl) (ds : List D) (A0 : List Addr) (K : KE) (E : XQ), RpA c.toKn Wo H vs ds A0 ∧ WOk c.toKn Wo w H ∧ S ds w K E ∧
    (∀ d fr w', K d fr w' → ∀ v ns H', Rp c.toKn Wo H' v d ns → Kp (Ws Wo) H H' → WOk c.toKn Wo w' H' → (∀ a ∈ ns, H a = none ∨ a ∈ A0) →
      (1 ≤ fr → ∀ es, d = .lst es → ∀ a m, ns = a :: m → H a = none ∧ a ∉ m) → (2 ≤ fr → ns.Nodup ∧ ∀ a ∈ ns, H a = none) → Q v H') ∧
    (∀ g od w', E g od w' → ∀ dx H', Kp (Ws Wo) H H' → WOk c.toKn Wo w' H' → ExcAt c Wo H' g od dx (fun a => H a = none ∨ a ∈ A0) → Ex (.ref (c.ca g)) dx H')
structure HasV (c : Kx) (X : Cx) (k : Nat) (g : Nat) (S : Spc) : Prop where
  ex : ∃ (fd : FuncData) (ps : List Str), FnG X.prog X.w X.K X.mg X.base k (c.fa g) fd ps (spOf c S) ∧ Binds X.K fd ps []
  kp : PySem.W.keepIn X.K (.ref (c.fa g)) = true
structure HasFn (c : Kx) (X : Cx) (k : Nat) (x : Str) (g : Nat) (S : Spc) : Prop extends HasV c X k g S where
  mg : X.mg x = some (.ref (c.fa g))
  db : (x == ("__debug__" : Str)) = false

/-- a call with keywords: the def's name, its keywords, the contract upon the places' values and the keywords' -/
structure HasKw (c : Kx) (X : Cx) (k : Nat) (x : Str) (kws : List Str) (S : Spc2) : Prop where
  ex : ∃ (f : Addr) (fd : FuncData) (ps : List Str) (S' : Spc) (g : List Value → List Value → List Value) (gV : List V → List V → List V) (gD : List D → List D → List D),
    FnG X.prog X.w X.K X.mg X.base k f fd ps (spOf c S') ∧ KBinds X.K fd ps kws g gV ∧ X.mg x = some (.ref f) ∧ PySem.W.keepIn X.K (.ref f) = true ∧
    ∀ ds es w K E, S ds es w K E → S' (gD ds es) w K E ∧ ∀ (Wo : Option Addr) (H : Hp) (vs us : List V) (n1 n2 : List Addr), RpA c.toKn Wo H vs ds n1 → RpA c.toKn Wo H us es n2 → ∃ n3, RpA c.toKn Wo H (gV vs us) (gD ds es) n3 ∧ ∀ a ∈ n3, a ∈ n1 ++ n2
  db : (x == ("__debug__" : Str)) = false

/-- __init__ of an error: the value is kept under a name -/
def spInit (C : Addr) (f : Str) : Sp := fun vs H Q _ => ∃ (a : Addr) (y : V), vs = [.ref a, y] ∧ H a = some (exo a C none) ∧ ∀ dx, H dx = none → dx ≠ a → Q .non (upd (upd H dx (exd dx [(f, y)])) a (exo a C (some dx)))
/-- a class of errors of the program's own: without __init__ (b = false), or with one that keeps its one argument -/
structure HasEr (c : Kx) (X : Cx) (x : Str) (g : Nat) (b : Bool) : Prop where
  mg : X.mg x = some (.ref (c.ca g))
  db : (x == ("__debug__" : Str)) = false
  isa : b = false → ExcC X.K (c.ca g)
  xf : XfC X.K (c.ca g) ∧ PySem.W.findIn X.K (.ref (c.ca g)) (c.fld g) = some none
  bare : b = false → ∃ (bm : List Value) (B nw ini : String), ExcBaseFacts B nw ini bm ∧ PySem.W.excIn X.K (c.ca g) bm nw = true ∧ PySem.W.keepIn X.K (.ref (c.ca g)) = true ∧ Raises X (.ref (c.ca g))
  one : b = true → OexC X.K (c.ca g) ∧ ∃ (fI : Addr) (fd : FuncData) (ps : List Str), PySem.W.findIn X.K (.ref (c.ca g)) "__init__" = some (some (.ref fI)) ∧ PySem.W.typeIn X.K (.ref fI) = some (.type "function") ∧
    FnOk X.prog X.w X.K X.mg X.base CX0 1 fI fd ps (spInit (c.ca g) (c.fld g)) ∧ Binds X.K fd ps []
/-- what a body's context knows -/
structure XOk (cc : CC) (c : Kx) (T : Tab) (k : Nat) (X : Cx) (Wx : WX) : Prop where
  K : X.K = c.K
  N : X.N = cc.N
  nd : cc.N.Nodup
  calm : X.calm = true
  room : Room k X.A
  gd : X.A.guards = some []
  po : PassesOwn (model X.prog X.w) X.A X.env X.xe
  tk : Takes X Wx
  fn : ∀ g x, cc.fs[g]? = some x → HasFn c X k x g (T.fn g)
  kw : ∀ m x ks, cc.ks[m]? = some (x, ks) → HasKw c X k x ks (T.kw m)
  cv : ∀ g, T.cv g = true → HasV c X k g (T.fn g)
  cst : ∀ m x, cc.cs[m]? = some x → ∃ u v, X.mg x = some u ∧ RelV v u ∧ (x == ("__debug__" : Str)) = false ∧ (T.cs m).pure = true ∧ ∀ H, Rp c.toKn none H v (T.cs m) []
  bl : ∀ x ∈ cc.bl, X.mg x = none
  gcd : cc.gcd = true → X.mg "gcd" = some (.builtin "math.gcd")
  rm : cc.es ≠ [] → Room 2 X.A
  er : ∀ g x b, cc.es[g]? = some (x, b) → HasEr c X x g b
  exm : ∀ g h y b, T.er g = true → cc.es[h]? = some (y, b) → PySem.W.exmOne X.K (.ref (c.ca g)) (.ref (c.ca h)) = some (T.sub g h)
  fl : ∀ g, T.er g = true → c.fld g = T.fl g
  kit : ∀ g h y b, T.er g = true → cc.es[h]? = some (y, b) → PySem.W.kitOne X.K (.ref (c.ca g)) (.ref (c.ca h)) = some (T.sub g h)
  eb : cc.es ≠ [] → ∀ g, T.er g = true → ∃ x b, cc.es[g]? = some (x, b)
end Ev

set_option Elab.async false
set_option linter.all false
set_option maxRecDepth 100000
set_option maxHeartbeats 4000000
/-! # EvF: soundness of the readings: names, displays, operators -/
namespace Ev
open PySem PySem.Spec PyProof.Rows L2

theorem LIM {n : Nat} (h : n ≤ 1000000) : n ≤ sizeLine := by rw [sizeLine_eq]; omega
section
variable {c : Kx} {X : Cx} {Wx : WX} {T : Tab} {e a b : Expr} {es : List Expr} {fv fv1 fv2 : List Nat} {P P1 P2 : Slots → Wl → KE → XQ → Prop} {PA1 : Slots → Wl → KA → XQ → Prop} {pos : Pos}

theorem LiftK.imp {Wo : Option Addr} {nf : Nat → List Addr} {ρ : Slots} {H : Hp} {K K' : KE} {Q : VK} (l : LiftK c.toKn Wo nf ρ fv H K Q) (h : ∀ d fr w, K' d fr w → K d fr w) : LiftK c.toKn Wo nf ρ fv H K' Q :=
  fun d fr w' k => l d fr w' (h d fr w' k)
theorem SE.mono (h : SE c X Wx e fv P) (hf : ∀ i ∈ fv, i ∈ fv1) : SE c X Wx e fv1 P := by
  obtain ⟨t, ht, hs⟩ := h
  exact ⟨t, ht, fun Wo nf ρ w σ H K E Q S l lx p => hs Wo nf ρ w σ H K E Q S (fun d fr w' k v ns H' r => l d fr w' k v ns H' (r.mono hf)) lx p⟩
theorem SE.of (h : SE c X Wx e fv P) (hp : ∀ ρ w K E, P1 ρ w K E → P ρ w K E) : SE c X Wx e fv P1 := by
  obtain ⟨t, ht, hs⟩ := h
  exact ⟨t, ht, fun Wo nf ρ w σ H K E Q S l lx p => hs Wo nf ρ w σ H K E Q S l lx (hp ρ w K E p)⟩
/-- a value without lists that may change is nobody's -/
theorem SE.pur {x : Ex} (h : SE c X Wx e fv1 (wE T x)) : SE c X Wx e fv (wE T (.pur x)) := by
  obtain ⟨t, ht, hs⟩ := h
  refine ⟨t, ht, fun Wo nf ρ w σ H K E Q S l lx p => ?_⟩
  refine hs Wo nf ρ w σ H _ E Q S (fun d fr w' k v ns H' r => ?_) lx p
  have rp := r.rp
  rw [Rp.pure_nil d rp k.1] at rp
  exact l d 2 w' k.2 v [] H' (.pur rp r.kp r.wok)

/-! ### constants and names -/
theorem se_const {v : V} {d : D} (hp : PE X e (tC v)) (hr : ∀ Wo H, Rp c.toKn Wo H v d []) : SE c X Wx e fv (fun _ w K _ => K d 2 w) :=
  ⟨tC v, hp, fun Wo nf ρ w σ H K E Q S l lx p => l d 2 w p v [] H (.pur (hr Wo H) .refl S.wok)⟩
theorem se_non {j} : SE c X Wx (.Constant .none j pos) fv (wE T .non) := se_const pe_non fun _ _ => .non
theorem se_bl {b j} : SE c X Wx (.Constant (.bool b) j pos) fv (wE T (.bl b)) := se_const pe_bl fun _ _ => .bl b
theorem se_int {i j} : SE c X Wx (.Constant (.int i) j pos) fv (wE T (.int i)) := se_const pe_int fun _ _ => .int i
theorem se_str {x j} : SE c X Wx (.Constant (.str x) j pos) fv (wE T (.str x)) := se_const pe_str fun _ _ => .str x
theorem frp_nil {Wo : Option Addr} {H : Hp} {v : V} {d : D} {ns : List Addr} (r : Rp c.toKn Wo H v d ns) (h : 1 ≤ frp d) : ns = [] := by
  unfold frp at h
  by_cases p : d.pure = true
  · exact r.pure_nil d p
  · rw [if_neg p] at h; omega
theorem se_var {i : Nat} {x : Str} (hN : X.N[i]? = some x) (hv : Vis X.env.scope x) (hd : (x == ("__debug__" : Str)) = false) (hcd : (x == ("__classdict__" : Str)) = false) : SE c X Wx (.Name x pos) [i] (wE T (.var i)) := by
  refine ⟨tVar i, pe_var hN hv hd hcd, fun Wo nf ρ w σ H K E Q S l lx p => ?_⟩
  simp only [wE, slot] at p
  cases q : ρ[i]? with
  | none => rw [q] at p; simp at p
  | some o =>
    cases o with
    | none => rw [q] at p; simp at p
    | some do' =>
      obtain ⟨d, o⟩ := do'
      rw [q] at p
      simp only [Option.join_some] at p
      obtain ⟨v, h1, h2⟩ := S.slot i d o q
      refine ⟨v, h1, l d _ w p v (nf i) H ⟨h2, .refl, S.wok, fun a ha => .inr ⟨i, by simp, ⟨d, o, q⟩, ha⟩, fun f es e a m en => ?_, fun f => ?_⟩⟩
      · rw [frp_nil h2 f] at en; cases en
      · rw [frp_nil h2 (by omega)]; simp
theorem se_cst {m : Nat} {x : Str} {u : Value} {v : V} (hg : Gl X x) (hm : X.mg x = some u) (r : RelV v u) (hd : (x == ("__debug__" : Str)) = false) (hp : (T.cs m).pure = true) (hr : ∀ H, Rp c.toKn none H v (T.cs m) []) : SE c X Wx (.Name x pos) fv (wE T (.cst x m)) :=
  se_const (pe_glob hg hm r hd) fun _ H => (hr H).anyW _ hp
theorem se_fnc {g : Nat} {x : Str} (hg : Gl X x) (hm : X.mg x = some (.ref (c.fa g))) (hd : (x == ("__debug__" : Str)) = false) : SE c X Wx (.Name x pos) fv (wE T (.fnc x g)) :=
  se_const (v := .ref (c.fa g)) (pe_glob hg hm rfl hd) fun _ _ => .fn g

/-! ### lists of expressions -/
theorem sa_nil : SA c X Wx [] fv (wEs T .nil) :=
  ⟨tNil, pa_nil, fun Wo nf ρ w σ H K E Q S l lx p => l [] 2 w p [] [] H ⟨.nil, .refl, S.wok, fun a h => by simp at h, fun _ => ⟨List.nodup_nil, fun a h => by simp at h⟩⟩⟩
/-- one outcome behind another -/
theorem Res.both {Wo : Option Addr} {nf : Nat → List Addr} {ρ : Slots} {H H1 H2 : Hp} {v : V} {d : D} {fr fs : Nat} {w1 w2 : Wl} {vs : List V} {ds : List D} {n1 n2 : List Addr} (r : Res c.toKn Wo nf ρ fv1 H H1 v d fr w1 n1) (r2 : ResA c.toKn Wo nf ρ fv2 H1 H2 vs ds fs w2 n2) :
    ResA c.toKn Wo nf ρ (fv1 ++ fv2) H H2 (v :: vs) (d :: ds) (min fr fs) w2 (n1 ++ n2) := by
  have rl := r.later r2.kp r2.wok
  refine ⟨.cons rl.rp r2.rp, rl.kp, r2.wok, fun a ha => ?_, fun f => ⟨?_, fun a ha => ?_⟩⟩
  · rcases List.mem_append.mp ha with ha | ha
    · exact (r.org a ha).imp id fun ⟨i, hi, q⟩ => ⟨i, by simp [hi], q⟩
    · exact (r2.org a ha).imp (r.kp.dom a) fun ⟨i, hi, q⟩ => ⟨i, by simp [hi], q⟩
  · have f1 := r.f2 (by omega)
    have f2 := r2.f2 (by omega)
    refine List.nodup_append.mpr ⟨f1.1, f2.1, fun a ha b hb e => ?_⟩
    subst e
    obtain ⟨⟨xs, q⟩, _⟩ := Rp.there d r.rp a ha
    rw [f2.2 a hb] at q; cases q
  · rcases List.mem_append.mp ha with ha | ha
    · exact (r.f2 (by omega)).2 a ha
    · exact r.kp.dom a ((r2.f2 (by omega)).2 a ha)
theorem sa_cons {x : Ex} {xs : Exs} (h : SE c X Wx e fv1 (wE T x)) (hr : SA c X Wx es fv2 (wEs T xs)) (hs : noStar e = true) : SA c X Wx (e :: es) (fv1 ++ fv2) (wEs T (.cons x xs)) := by
  obtain ⟨t1, h1, s1⟩ := h
  obtain ⟨t2, h2, s2⟩ := hr
  refine ⟨tCons t1 t2, pa_cons h1 h2 (star_cons hs), fun Wo nf ρ w σ H K E Q S l lx p => ?_⟩
  refine s1 Wo nf ρ w σ H _ E _ S (fun d fr w1 k v n1 H1 r => ?_) lx p
  refine s2 Wo nf ρ w1 σ H1 _ E _ (r.sim S) (fun ds fs w2 k2 vs n2 H2 r2 => ?_) (lx.step r.kp) k
  exact l _ _ _ k2 _ _ _ (r.both r2)
theorem asS_cases {d : D} {k : List D → Prop} (h : asS d k) : ∃ ds, items d = some ds ∧ k ds := by
  unfold asS at h
  cases q : items d with
  | none => rw [q] at h; exact h.elim
  | some ds => rw [q] at h; exact ⟨ds, rfl, h⟩
/-- a sequence, as the rules take it -/
theorem seq_of {K : PySem.W.Frag} {Wo : Option Addr} {H : Hp} {v : V} {d : D} {ds : List D} {ns : List Addr} (r : Rp c.toKn Wo H v d ns) (h : items d = some ds) :
    ∃ a xs m, v = .ref a ∧ (SqT c.K H a xs ∨ SqL c.K H a xs) ∧ RpA c.toKn Wo H xs ds m ∧ (∀ x ∈ m, x ∈ ns) ∧ (ns.Nodup → m.Nodup) := by
  cases d with
  | tup es =>
    cases h
    cases r with
    | tup s r => exact ⟨_, _, _, rfl, .inl s, r, fun _ h => h, fun h => h⟩
  | lst es =>
    cases h
    cases r with
    | lst s w r => exact ⟨_, _, _, rfl, .inr (SqL.of s), r, fun _ h => List.mem_cons_of_mem _ h, fun h => (List.nodup_cons.mp h).2⟩
  | fz es =>
    cases h
    cases r with
    | lsf s r => exact ⟨_, _, _, rfl, .inr s.sq, r, fun _ h => h, fun h => h⟩
  | _ => simp [items] at h
/-- several outcomes spliced -/
theorem ResA.spliced {Wo : Option Addr} {nf : Nat → List Addr} {ρ : Slots} {H H1 H2 : Hp} {fs : Nat} {w1 w2 : Wl} {us vs : List V} {xs ds : List D} {n0 n1 n2 : List Addr} (k : Kp (Ws Wo) H H1) (o : WOk c.toKn Wo w1 H1) (r : RpA c.toKn Wo H1 us xs n1) (ho : ∀ a ∈ n1, H a = none ∨ ∃ i ∈ fv1, Lv ρ i ∧ a ∈ nf i)
    (r2 : ResA c.toKn Wo nf ρ fv2 H1 H2 vs ds fs w2 n2) : ResA c.toKn Wo nf ρ (fv1 ++ fv2) H H2 (us ++ vs) (xs ++ ds) (min (if pureAll xs then 2 else 0) fs) w2 (n1 ++ n2) := by
  have rl := r.kp r2.kp o.ls
  have pn : 2 ≤ min (if pureAll xs = true then 2 else 0) fs → n1 = [] := fun f => by
    by_cases p : pureAll xs = true
    · exact r.pure_nil xs p
    · rw [if_neg p] at f; omega
  refine ⟨rl.append r2.rp, k.trans r2.kp, r2.wok, fun a ha => ?_, fun f => ?_⟩
  · rcases List.mem_append.mp ha with ha | ha
    · exact (ho a ha).imp id fun ⟨i, hi, q⟩ => ⟨i, by simp [hi], q⟩
    · exact (r2.org a ha).imp (k.dom a) fun ⟨i, hi, q⟩ => ⟨i, by simp [hi], q⟩
  · rw [pn f]
    have f2 := r2.f2 (by omega)
    exact ⟨by simpa using f2.1, fun a ha => k.dom a (f2.2 a (by simpa using ha))⟩
theorem sa_star {x : Ex} {xs : Exs} {p : Pos} (hK : X.K = c.K) (h : SE c X Wx e fv1 (wE T x)) (hr : SA c X Wx es fv2 (wEs T xs)) : SA c X Wx (.Starred e p :: es) (fv1 ++ fv2) (wEs T (.star x xs)) := by
  obtain ⟨t1, h1, s1⟩ := h
  obtain ⟨t2, h2, s2⟩ := hr
  refine ⟨StX.tStar X.K t1 t2, StX.pa_star h1 h2 rfl, fun Wo nf ρ w σ H K E Q S l lx p => ?_⟩
  refine s1 Wo nf ρ w σ H _ E _ S (fun d fr w1 k v n1 H1 r => ?_) lx p
  obtain ⟨xs, hx, k⟩ := asS_cases k
  obtain ⟨a, us, m, rfl, hs, rm, hm, _⟩ := seq_of (K := X.K) r.rp hx
  refine ⟨a, us, rfl, ?_, ?_⟩
  · rw [hK]; exact hs
  · refine s2 Wo nf ρ w1 σ H1 _ E _ (r.sim S) (fun ds fs w2 k2 vs n2 H2 r2 => ?_) (lx.step r.kp) k
    exact l _ _ _ k2 _ _ _ (.spliced (n0 := n1) r.kp r.wok rm (fun a ha => r.org a (hm a ha)) r2)

/-! ### displays -/
theorem upd_rp {Wo : Option Addr} {H : Hp} {p : Addr} {o : HO} {v : V} {d : D} {ns : List Addr} (r : Rp c.toKn Wo H v d ns) (np : H p = none) : Rp c.toKn Wo (upd H p o) v d ns := r.keep d (Kp.new (S := []) np) .nil fun _ _ z => by simp at z
theorem upd_rpA {Wo : Option Addr} {H : Hp} {p : Addr} {o : HO} {vs : List V} {ds : List D} {ns : List Addr} (r : RpA c.toKn Wo H vs ds ns) (np : H p = none) : RpA c.toKn Wo (upd H p o) vs ds ns := r.keep ds (Kp.new (S := []) np) .nil fun _ _ z => by simp at z
theorem upd_wok {Wo : Option Addr} {H : Hp} {p : Addr} {o : HO} {w : Wl} (h : WOk c.toKn Wo w H) (np : H p = none) : WOk c.toKn Wo w (upd H p o) := fun a e => by
  obtain ⟨xs, h1, h2, h3⟩ := h a e
  exact ⟨xs, by rw [upd_ne (ne_of_none h1 np)]; exact h1, upd_rpA h2 np, h3⟩
theorem noWell {Wo : Option Addr} {H : Hp} {p : Addr} {w : Wl} (h : WOk c.toKn Wo w H) (np : H p = none) : Wo ≠ some p := fun e => by
  obtain ⟨xs, h1, _⟩ := h p e
  rw [np] at h1; cases h1
/-- a new tuple -/
theorem ResA.tup {Wo : Option Addr} {nf : Nat → List Addr} {ρ : Slots} {H H1 : Hp} {fr : Nat} {w1 : Wl} {vs : List V} {ds : List D} {ns : List Addr} {p : Addr} (r : ResA c.toKn Wo nf ρ fv H H1 vs ds fr w1 ns) (np : H1 p = none) :
    Res c.toKn Wo nf ρ fv H (upd H1 p (.tup vs)) (.ref p) (.tup ds) (if fr = 2 then 2 else 0) w1 ns := by
  refine ⟨.tup (SqT.of upd_same) (upd_rpA r.rp np), r.kp.trans (.new np), upd_wok r.wok np, r.org, fun f es e a m en => (by cases e), fun f => ?_⟩
  by_cases q : fr = 2
  · exact r.f2 (by omega)
  · rw [if_neg q] at f; omega
/-- a new list -/
theorem ResA.lst {Wo : Option Addr} {nf : Nat → List Addr} {ρ : Slots} {H H1 : Hp} {fr : Nat} {w1 : Wl} {vs : List V} {ds : List D} {ns : List Addr} {p : Addr} (r : ResA c.toKn Wo nf ρ fv H H1 vs ds fr w1 ns) (np : H1 p = none) :
    Res c.toKn Wo nf ρ fv H (upd H1 p (.lst vs)) (.ref p) (.lst ds) (if fr = 2 then 2 else 1) w1 (p :: ns) := by
  have pn : p ∉ ns := fun z => by
    obtain ⟨⟨xs, q⟩, _⟩ := RpA.there ds r.rp p z
    rw [np] at q; cases q
  refine ⟨.lst upd_same (noWell r.wok np) (upd_rpA r.rp np), r.kp.trans (.new np), upd_wok r.wok np, fun a ha => ?_, fun f es e a m en => ?_, fun f => ?_⟩
  · rcases List.mem_cons.mp ha with rfl | ha
    · exact .inl (r.kp.dom _ np)
    · exact r.org a ha
  · cases en
    exact ⟨r.kp.dom _ np, pn⟩
  · by_cases q : fr = 2
    · have := r.f2 (by omega)
      refine ⟨List.nodup_cons.mpr ⟨pn, this.1⟩, fun a ha => ?_⟩
      rcases List.mem_cons.mp ha with rfl | ha
      · exact r.kp.dom _ np
      · exact this.2 a ha
    · rw [if_neg q] at f; omega
theorem se_tup {xs : Exs} {k : Nat} (h : SA c X Wx es fv (wEs T xs)) : SE c X Wx (.Tuple es k pos) fv (wE T (.tup xs)) := by
  obtain ⟨t, ht, hs⟩ := h
  refine ⟨tTup t, pe_tup ht, fun Wo nf ρ w σ H K E Q S l lx p => ?_⟩
  refine hs Wo nf ρ w σ H _ E _ S (fun ds fr w1 k vs ns H1 r => ⟨?_, fun p np => ?_⟩) lx p
  · rw [r.rp.length]; exact LIM k.1
  · exact l _ _ _ k.2 _ _ _ (r.tup np)
theorem se_lst {xs : Exs} (h : SA c X Wx es fv (wEs T xs)) : SE c X Wx (.List es pos) fv (wE T (.lst xs)) := by
  obtain ⟨t, ht, hs⟩ := h
  refine ⟨tLst t, pe_lst ht, fun Wo nf ρ w σ H K E Q S l lx p => ?_⟩
  refine hs Wo nf ρ w σ H _ E _ S (fun ds fr w1 k vs ns H1 r => ⟨?_, fun p np => ?_⟩) lx p
  · rw [r.rp.length]; exact LIM k.1
  · exact l _ _ _ k.2 _ _ _ (r.lst np)

theorem se_emp : SE c X Wx (.Dict [] [] pos) fv (wE T .emp) :=
  ⟨tDNewK, pe_dnewK, fun Wo nf ρ w σ H K E Q S l lx p q nq => l (.dic []) 2 w p (.ref q) [] (upd H q (.dK [])) ⟨.dic upd_same, .new nq, upd_wok S.wok nq, fun a h => (by simp at h), fun _ _ _ _ _ en => (by cases en), fun _ => ⟨List.nodup_nil, fun a h => (by simp at h)⟩⟩⟩

theorem se_dc1 {k : Str} {i : Int} {j1 j2} {p1 p2 : Pos} : SE c X Wx (.Dict [some (.Constant (.str k) j1 p1)] [.Constant (.int i) j2 p2] pos) fv (wE T (.dc1 k i)) :=
  ⟨_, pe_disp (pps_cons pe_str pe_int pps_nil) rfl rfl (by simp) (by simp), fun Wo nf ρ w σ H K E Q S l lx p q nq =>
    ⟨upd_same, [(.inr k, .int i)], rfl, by simp, l (.dic [(k, i)]) 2 w p (.ref q) [] _ ⟨.dic upd_same, by rw [upd_upd]; exact .new nq, by rw [upd_upd]; exact upd_wok S.wok nq, fun a h => (by simp at h), fun _ _ _ _ _ en => (by cases en), fun _ => ⟨List.nodup_nil, fun a h => (by simp at h)⟩⟩⟩⟩

/-! ### two expressions, then a rule by values -/
theorem two {x y : Ex} (h1 : SE c X Wx a fv1 (wE T x)) (h2 : SE c X Wx b fv2 (wE T y)) {r : R2} {M : D → D → Wl → KE → Prop}
    (hr : ∀ (Wo : Option Addr) (nf : Nat → List Addr) (ρ : Slots) (H : Hp) (v u : V) (d1 d2 : D) (n1 n2 : List Addr) (w : Wl) (K : KE) (Q : VK), Rp c.toKn Wo H v d1 n1 → Rp c.toKn Wo H u d2 n2 → WOk c.toKn Wo w H → M d1 d2 w K →
      (∀ d fr w', K d fr w' → ∀ z ns H', Rp c.toKn Wo H' z d ns → Kp (Ws Wo) H H' → WOk c.toKn Wo w' H' → (∀ a ∈ ns, H a = none ∨ a ∈ n1 ∨ a ∈ n2) → (1 ≤ fr → ∀ es, d = .lst es → ∀ a m, ns = a :: m → H a = none ∧ a ∉ m) → (2 ≤ fr → ns.Nodup ∧ ∀ a ∈ ns, H a = none) → Q z H') → r v u H Q) :
    ∀ {t1 t2 : TE}, PE X a t1 → PE X b t2 → (∀ Wo nf ρ w σ H K E Q, SimE c.toKn Wo nf ρ w σ H → LiftK c.toKn Wo nf ρ fv1 H K Q → LiftX c Wo nf ρ σ H E Wx → wE T x ρ w K E → t1 σ H Q) →
      (∀ Wo nf ρ w σ H K E Q, SimE c.toKn Wo nf ρ w σ H → LiftK c.toKn Wo nf ρ fv2 H K Q → LiftX c Wo nf ρ σ H E Wx → wE T y ρ w K E → t2 σ H Q) →
      ∀ Wo nf ρ w σ H K E Q, SimE c.toKn Wo nf ρ w σ H → LiftK c.toKn Wo nf ρ (fv1 ++ fv2) H K Q → LiftX c Wo nf ρ σ H E Wx →
        wE T x ρ w (fun d1 _ w1 => wE T y ρ w1 (fun d2 _ w2 => M d1 d2 w2 K) E) E → tOp r t1 t2 σ H Q := by
  intro t1 t2 p1 p2 s1 s2 Wo nf ρ w σ H K E Q S l lx p
  refine s1 Wo nf ρ w σ H _ E _ S (fun d1 f1 w1 k1 v n1 H1 r1 => ?_) lx p
  refine s2 Wo nf ρ w1 σ H1 _ E _ (r1.sim S) (fun d2 f2 w2 k2 u n2 H2 r2 => ?_) (lx.step r1.kp) k1
  have r1' := r1.later r2.kp r2.wok
  have k12 := r1.kp.trans r2.kp
  refine hr Wo nf ρ H2 v u d1 d2 n1 n2 w2 K Q r1'.rp r2.rp r2.wok k2 fun d fr w' kk z ns H' rz kz oz og g1 g2 => ?_
  refine l d fr w' kk z ns H' ⟨rz, k12.trans kz, oz, fun a ha => ?_, fun f es e a m en => ⟨k12.dom a (g1 f es e a m en).1, (g1 f es e a m en).2⟩, fun f => ⟨(g2 f).1, fun a ha => k12.dom a ((g2 f).2 a ha)⟩⟩
  rcases og a ha with q | q | q
  · exact .inl (k12.dom a q)
  · exact (r1.org a q).imp id fun ⟨i, hi, z⟩ => ⟨i, by simp [hi], z⟩
  · exact (r2.org a q).imp (r1.kp.dom a) fun ⟨i, hi, z⟩ => ⟨i, by simp [hi], z⟩
end
end Ev

set_option Elab.async false
set_option linter.all false
set_option maxRecDepth 100000
set_option maxHeartbeats 4000000
/-! # EvGa: a tuple times any whole number -/
namespace Ev
open PySem PySem.Spec PyProof.Rows L2

/-- the tuple itself: an empty one, or times 1 -/
theorem mul_same (p : Addr) (xs : Array Value) (m : Nat) (dx : Option Addr) (ss : Array (Option Value)) (j : Int) (t : Tok) (hs : (decide (j < -(2 ^ 63)) || decide (j ≥ 2 ^ 63)) = false) (h1 : (xs.isEmpty || j == 1) = true) :
    Meets (Builtin.«tuple.__mul__» ⟨[.ref p, .int j t], []⟩) (fun _ R s => s.heap.get? p = some ⟨.type "tuple", dx, .seq xs m, ss⟩ ∧ R (.ok (.ret (.ref p))) s) :=
  .of_wp fun P w A R s h => by
    obtain ⟨hp, gs, d, tk, os⟩ := s
    obtain ⟨at1, done⟩ := h
    have ix := AutoSeq1.idx_int
    wp_walk using AutoSeq1.wpAny_loadPart' at1
    repeat (first
      | (refine wpAny_ite_false (decide_eq_false (by rw [hs]; exact Bool.false_ne_true)) ?_; wp_walk using AutoSeq1.wpAny_loadPart' at1)
      | (refine wpAny_ite_true (decide_eq_true h1) ?_; wp_walk using AutoSeq1.wpAny_loadPart' at1))
    exact ⟨_, rfl, done⟩
/-- nothing: times 0, or less -/
theorem mul_none (p : Addr) (xs : Array Value) (m : Nat) (dx : Option Addr) (ss : Array (Option Value)) (j : Int) (t : Tok) (hs : (decide (j < -(2 ^ 63)) || decide (j ≥ 2 ^ 63)) = false) (h1 : (xs.isEmpty || j == 1) = false) (h2 : (decide (j ≤ 0) || xs.isEmpty) = true) :
    Meets (Builtin.«tuple.__mul__» ⟨[.ref p, .int j t], []⟩) (fun _ R s => s.heap.get? p = some ⟨.type "tuple", dx, .seq xs m, ss⟩ ∧
      R (.ok (.ret (Value.ref s.heap.objs.size))) { s with heap := s.heap.push { cls := Value.type "tuple", data := Data.seq #[] }, toks := s.toks }) :=
  .of_wp fun P w A R s h => by
    obtain ⟨hp, gs, d, tk, os⟩ := s
    obtain ⟨at1, done⟩ := h
    have ix := AutoSeq1.idx_int
    wp_walk using AutoSeq1.wpAny_loadPart' at1
    repeat (first
      | (refine wpAny_ite_false (decide_eq_false (by rw [hs]; exact Bool.false_ne_true)) ?_; wp_walk using AutoSeq1.wpAny_loadPart' at1)
      | (refine wpAny_ite_false (decide_eq_false (by rw [h1]; exact Bool.false_ne_true)) ?_; wp_walk using AutoSeq1.wpAny_loadPart' at1)
      | (refine wpAny_ite_true (decide_eq_true h2) ?_; wp_walk using AutoSeq1.wpAny_loadPart' at1))
    exact ⟨_, rfl, done⟩
def rRepS (K : PySem.W.Frag) : R2 := fun x y H Q => ∃ (l : Addr) (k : Int) (xs : List V), x = .ref l ∧ y = .int k ∧ SqT K H l xs ∧ (xs = [] ∨ k = 1) ∧ -(2 ^ 62) ≤ k ∧ k < 2 ^ 62 ∧ Q (.ref l) H
def rRepN (K : PySem.W.Frag) : R2 := fun x y H Q => ∃ (l : Addr) (k : Int) (xs : List V), x = .ref l ∧ y = .int k ∧ SqT K H l xs ∧ xs ≠ [] ∧ k ≤ 0 ∧ -(2 ^ 62) ≤ k ∧ ∀ p, H p = none → Q (.ref p) (upd H p (.tup []))
section
variable {X : Cx}
theorem op_repS : OpR X (binaryOp .Mult) (rRepS X.K) := by
  intro pins s σ H x y v u Q J rx ry h
  obtain ⟨p, j, xs, rfl, rfl, hT, hc, b1, b2, q⟩ := h
  cases rx
  obtain ⟨t, rfl⟩ := ry
  obtain ⟨us, r, ⟨⟨cl, dx, dat, ss⟩, at0, e1, m, e2⟩, _⟩ := J.tuple hT
  simp only at e1 e2
  subst e1 e2
  have hs : (decide (j < -(2 ^ 63)) || decide (j ≥ 2 ^ 63)) = false := by
    rw [decide_eq_false (by omega), decide_eq_false (by omega)]
    rfl
  have h1 : (us.toArray.isEmpty || j == 1) = true := by
    rcases hc with e | e
    · have : us = [] := List.eq_nil_of_length_eq_zero (by rw [← r.length, e]; rfl)
      rw [this]; rfl
    · rw [e]; simp
  refine wpAny_binaryOp_repeat_ref (T := "tuple") (U := "int") (by decide) ⟨_, at0, rfl⟩ (fun s' => typeIs_int s' j t) noFill_tuple_mul F.fills_int_mul F.slot_int_rmul repeat_tuple F.slot_int_index.lookup ?_
  refine call_meets F.slot_int_rmul (typeIs_int s j t) F.entry_int_rmul (F.args_int_rmul_2 _ _) (int_rmul_tuple j t p us.toArray m dx ss) ⟨at0, rfl, ⟨_, at0, rfl⟩, ?_⟩
  exact call_meets F.slot_tuple_mul ⟨_, at0, rfl⟩ F.entry_tuple_mul (F.args_tuple_mul_2 _ _) (mul_same p us.toArray m dx ss j t hs h1) ⟨at0, .ref p, H, J, rfl, q⟩
theorem op_repN : OpR X (binaryOp .Mult) (rRepN X.K) := by
  intro pins s σ H x y v u Q J rx ry h
  obtain ⟨p, j, xs, rfl, rfl, hT, hne, b0, b1, q⟩ := h
  cases rx
  obtain ⟨t, rfl⟩ := ry
  obtain ⟨us, r, ⟨⟨cl, dx, dat, ss⟩, at0, e1, m, e2⟩, _⟩ := J.tuple hT
  simp only at e1 e2
  subst e1 e2
  have hs : (decide (j < -(2 ^ 63)) || decide (j ≥ 2 ^ 63)) = false := by
    rw [decide_eq_false (by omega), decide_eq_false (by omega)]
    rfl
  have he : us.toArray.isEmpty = false := by
    cases us with
    | nil => exact absurd (List.eq_nil_of_length_eq_zero (by rw [r.length]; rfl)) hne
    | cons a b => rfl
  have h1 : (us.toArray.isEmpty || j == 1) = false := by
    rw [he, Bool.false_or]
    exact beq_eq_false_iff_ne.mpr (by omega)
  have h2 : (decide (j ≤ 0) || us.toArray.isEmpty) = true := by rw [decide_eq_true b0]; rfl
  refine wpAny_binaryOp_repeat_ref (T := "tuple") (U := "int") (by decide) ⟨_, at0, rfl⟩ (fun s' => typeIs_int s' j t) noFill_tuple_mul F.fills_int_mul F.slot_int_rmul repeat_tuple F.slot_int_index.lookup ?_
  refine call_meets F.slot_int_rmul (typeIs_int s j t) F.entry_int_rmul (F.args_int_rmul_2 _ _) (int_rmul_tuple j t p us.toArray m dx ss) ⟨at0, rfl, ⟨_, at0, rfl⟩, ?_⟩
  refine call_meets F.slot_tuple_mul ⟨_, at0, rfl⟩ F.entry_tuple_mul (F.args_tuple_mul_2 _ _) (mul_none p us.toArray m dx ss j t hs h1 h2) ⟨at0, ?_⟩
  refine ⟨.ref s.heap.objs.size, _, J.laid (t' := s.toks) (o := .tup []) (fun b ob z => Heap.get?_push_of_some _ z) (Nat.le_refl _) ?_, rfl, q _ (J.hok.fresh (Nat.le_refl _))⟩
  exact ⟨Nat.zero_le _, [], .nil, IsTup.new _ _⟩
end
end Ev

set_option Elab.async false
set_option linter.all false
set_option maxRecDepth 100000
set_option maxHeartbeats 4000000
/-! # EvG: operators, comparisons, and, or, not -/
namespace Ev
open PySem PySem.Spec PyProof.Rows L2

section
variable {c : Kx} {X : Cx} {Wx : WX} {T : Tab} {e a b d' : Expr} {es : List Expr} {fv fv1 fv2 fv3 : List Nat} {pos : Pos} {x y z : Ex}

/-! ### the operators by values -/
def boOp : Bo → Operator
  | .add => .Add | .sub => .Sub | .mul => .Mult | .mod => .Mod | .fdv => .FloorDiv | .pow => .Pow
/-- what is wanted of a made value -/
def Goes (c : Kx) (Wo : Option Addr) (H : Hp) (A : List Addr) (w : Wl) (k : D → Nat → Prop) (Q : VK) : Prop :=
  ∀ d fr, k d fr → ∀ z ns H', Rp c.toKn Wo H' z d ns → Kp (Ws Wo) H H' → WOk c.toKn Wo w H' → (∀ a ∈ ns, H a = none ∨ a ∈ A) → (1 ≤ fr → ∀ es, d = .lst es → ∀ a m, ns = a :: m → H a = none ∧ a ∉ m) → (2 ≤ fr → ns.Nodup ∧ ∀ a ∈ ns, H a = none) → Q z H'
theorem Goes.pur {Wo : Option Addr} {H H' : Hp} {A : List Addr} {w : Wl} {k : D → Nat → Prop} {Q : VK} (g : Goes c Wo H A w k Q) {d : D} {fr : Nat} {z : V} (kd : k d fr) (r : Rp c.toKn Wo H' z d []) (kp : Kp (Ws Wo) H H') (o : WOk c.toKn Wo w H') : Q z H' :=
  g d fr kd z [] H' r kp o (fun a h => by simp at h) (fun _ _ _ a m h => by simp at h) (fun _ => ⟨List.nodup_nil, fun a h => by simp at h⟩)
theorem Goes.here {Wo : Option Addr} {H : Hp} {A : List Addr} {w : Wl} {k : D → Nat → Prop} {Q : VK} (g : Goes c Wo H A w k Q) {d : D} {fr : Nat} {z : V} (kd : k d fr) (r : Rp c.toKn Wo H z d []) (o : WOk c.toKn Wo w H) : Q z H := g.pur kd r .refl o
/-- a new list of known items -/
theorem Goes.newL {Wo : Option Addr} {H : Hp} {A : List Addr} {w : Wl} {k : D → Nat → Prop} {Q : VK} (g : Goes c Wo H A w k Q) {ds : List D} {xs : List V} {ns : List Addr} {p : Addr} (kd : k (.lst ds) (if pureAll ds = true then 2 else 1)) (r : RpA c.toKn Wo H xs ds ns) (o : WOk c.toKn Wo w H) (np : H p = none)
    (og : ∀ a ∈ ns, a ∈ A) : Q (.ref p) (upd H p (.lst xs)) := by
  have pn : p ∉ ns := fun z => by
    obtain ⟨⟨xs, q⟩, _⟩ := RpA.there ds r p z
    rw [np] at q; cases q
  refine g _ _ kd _ (p :: ns) _ (.lst upd_same (noWell o np) (upd_rpA r np)) (.new np) (upd_wok o np) (fun a ha => ?_) (fun f es e a m en => ?_) (fun f => ?_)
  · rcases List.mem_cons.mp ha with rfl | ha
    · exact .inl np
    · exact .inr (og a ha)
  · cases en
    exact ⟨np, pn⟩
  · by_cases q : pureAll ds = true
    · rw [r.pure_nil ds q]
      exact ⟨by simp, fun a ha => by
        have e : a = p := by simpa using ha
        rw [e]; exact np⟩
    · rw [if_neg q] at f; omega
/-- a new tuple of known items -/
theorem Goes.newT {Wo : Option Addr} {H : Hp} {A : List Addr} {w : Wl} {k : D → Nat → Prop} {Q : VK} (g : Goes c Wo H A w k Q) {ds : List D} {xs : List V} {ns : List Addr} {p : Addr} (kd : k (.tup ds) (if pureAll ds = true then 2 else 0)) (r : RpA c.toKn Wo H xs ds ns) (o : WOk c.toKn Wo w H) (np : H p = none)
    (og : ∀ a ∈ ns, a ∈ A) : Q (.ref p) (upd H p (.tup xs)) := by
  refine g _ _ kd _ ns _ (.tup (SqT.of upd_same) (upd_rpA r np)) (.new np) (upd_wok o np) (fun a ha => .inr (og a ha)) (fun f es e a m en => (by cases e)) (fun f => ?_)
  by_cases q : pureAll ds = true
  · rw [r.pure_nil ds q]; simp
  · rw [if_neg q] at f; omega
/-- a tuple that stands -/
theorem Goes.oldT {Wo : Option Addr} {H : Hp} {A : List Addr} {w : Wl} {k : D → Nat → Prop} {Q : VK} (g : Goes c Wo H A w k Q) {ds : List D} {xs : List V} {ns : List Addr} {p : Addr} (kd : k (.tup ds) (if pureAll ds = true then 2 else 0)) (h : SqT c.K H p xs) (r : RpA c.toKn Wo H xs ds ns) (o : WOk c.toKn Wo w H)
    (og : ∀ a ∈ ns, a ∈ A) : Q (.ref p) H := by
  refine g _ _ kd _ ns _ (.tup h r) .refl o (fun a ha => .inr (og a ha)) (fun f es e a m en => (by cases e)) (fun f => ?_)
  by_cases q : pureAll ds = true
  · rw [r.pure_nil ds q]; simp
  · rw [if_neg q] at f; omega
/-- a rule at two values does what the reading says -/
def Does2 (c : Kx) (X : Cx) (f : Value → Value → Sem Value) (M : D → D → (D → Nat → Prop) → Prop) : Prop :=
  ∃ r : R2, OpR X f r ∧ ∀ (Wo : Option Addr) (H : Hp) (v u : V) (d1 d2 : D) (n1 n2 : List Addr) (w : Wl) (k : D → Nat → Prop) (Q : VK), Rp c.toKn Wo H v d1 n1 → Rp c.toKn Wo H u d2 n2 → WOk c.toKn Wo w H → M d1 d2 k →
    Goes c Wo H (n1 ++ n2) w k Q → r v u H Q
theorem pureAll_append : ∀ (xs ys : List D), pureAll (xs ++ ys) = (pureAll xs && pureAll ys)
  | [], ys => by simp [pureAll]
  | x :: xs, ys => by simp [pureAll, pureAll_append xs ys, Bool.and_assoc]
theorem RpA.rep {Wo : Option Addr} {H : Hp} {xs : List V} {ds : List D} {ns : List Addr} (r : RpA c.toKn Wo H xs ds ns) : ∀ n : Nat, RpA c.toKn Wo H (List.replicate n xs).flatten (List.replicate n ds).flatten (List.replicate n ns).flatten
  | 0 => by simpa using RpA.nil
  | n + 1 => by simpa [List.replicate_succ] using r.append (RpA.rep r n)
theorem pureAll_rep (ds : List D) : ∀ n : Nat, pureAll ds = true → pureAll (List.replicate n ds).flatten = true
  | 0, _ => by simp [pureAll]
  | n + 1, h => by simp [List.replicate_succ, pureAll_append, h, pureAll_rep ds n h]

theorem does_add (hK : X.K = c.K) : Does2 c X (binaryOp .Add) (bop .add) := by
  refine ⟨_, op_add.or (op_add_str.or ((op_catA (X := X)).or op_cat)), fun Wo H v u d1 d2 n1 n2 w k Q r1 r2 o m g => ?_⟩
  unfold bop at m
  split at m <;> try contradiction
  · cases r1; cases r2
    exact .inl ⟨_, _, rfl, rfl, g.here m (.int _) o⟩
  · cases r1; cases r2
    exact .inr (.inl ⟨_, _, rfl, rfl, LIM m.1, g.here m.2 (.str _) o⟩)
  · rename_i da db _
    cases r1 with
    | @tup a xs _ _ s1 q1 =>
      cases r2 with
      | @tup b ys _ _ s2 q2 =>
        have hx := q1.length
        have hy := q2.length
        have kk := m.2
        have pe : pureAll (da ++ db) = (pureAll da && pureAll db) := pureAll_append da db
        rw [← pe] at kk
        refine .inr (.inr (.inl ⟨a, b, xs, ys, rfl, rfl, by rw [hK]; exact s1, by rw [hK]; exact s2, by rw [hx, hy]; exact LIM m.1, fun e => ?_, fun _ e => ?_, fun _ _ p np => ?_⟩))
        · subst e
          cases q1
          exact g.oldT kk s2 q2 o fun a ha => by simp [ha]
        · subst e
          cases q2
          rw [List.append_nil] at kk
          exact g.oldT kk s1 q1 o fun a ha => by simp [ha]
        · exact g.newT kk (q1.append q2) o np fun a ha => ha
  · rename_i da db _
    cases r1 with
    | @lst a xs _ m1 s1 w1 q1 =>
      cases r2 with
      | @lst b ys _ m2 s2 w2 q2 =>
        have hx := q1.length
        have hy := q2.length
        have kk := m.2
        have pe : pureAll (da ++ db) = (pureAll da && pureAll db) := pureAll_append da db
        rw [← pe] at kk
        refine .inr (.inr (.inr ⟨a, b, xs, ys, rfl, rfl, s1, s2, by rw [hx, hy]; exact LIM m.1, fun p np => ?_⟩))
        refine g.newL kk (q1.append q2) o np fun z hz => ?_
        rcases List.mem_append.mp hz with hz | hz
        · simp [hz]
        · simp [hz]
theorem does_sub : Does2 c X (binaryOp .Sub) (bop .sub) := by
  refine ⟨_, op_sub, fun Wo H v u d1 d2 n1 n2 w k Q r1 r2 o m g => ?_⟩
  unfold bop at m
  split at m <;> try contradiction
  cases r1; cases r2
  exact ⟨_, _, rfl, rfl, g.here m (.int _) o⟩
theorem does_mul (hK : X.K = c.K) : Does2 c X (binaryOp .Mult) (bop .mul) := by
  refine ⟨_, op_mul.or (op_mulW.or (op_rep.or (op_repT.or (op_repS.or op_repN)))), fun Wo H v u d1 d2 n1 n2 w k Q r1 r2 o m g => ?_⟩
  unfold bop at m
  split at m <;> try contradiction
  · cases r1; cases r2
    rcases m.1 with q | q
    · exact .inl ⟨_, _, rfl, rfl, q, g.here m.2 (.int _) o⟩
    · exact .inr (.inl ⟨_, _, rfl, rfl, q, g.here m.2 (.int _) o⟩)
  · rename_i da j _
    obtain ⟨h1, h2, h3, kk⟩ := m
    cases r2
    cases r1 with
    | @lst a xs _ m1 s1 w1 q1 =>
      refine .inr (.inr (.inl ⟨a, j, xs, rfl, rfl, s1, by omega, by omega, by rw [q1.length]; exact LIM h3, fun p np => ?_⟩))
      have q := q1.rep j.toNat
      by_cases pu : pureAll da = true
      · rw [if_pos pu] at kk
        refine g.newL (by rw [if_pos (pureAll_rep da _ pu)]; exact kk) q o np fun z hz => ?_
        have e := q.pure_nil _ (pureAll_rep da _ pu)
        rw [e] at hz; simp at hz
      · rw [if_neg pu] at kk
        -- its items are shared
        have pn : p ∉ (List.replicate j.toNat m1).flatten := fun z => by
          obtain ⟨⟨xs, q⟩, _⟩ := RpA.there _ q p z
          rw [np] at q; cases q
        refine g _ _ kk _ (p :: (List.replicate j.toNat m1).flatten) _ (.lst upd_same (noWell o np) (upd_rpA q np)) (.new np) (upd_wok o np) (fun z hz => ?_) (fun f es e z m en => ?_) (fun f => by omega)
        · rcases List.mem_cons.mp hz with rfl | hz
          · exact .inl np
          · obtain ⟨l, hl, hz2⟩ := List.mem_flatten.mp hz
            have e := (List.mem_replicate.mp hl).2
            rw [e] at hz2
            exact .inr (by simp [hz2])
        · cases en
          exact ⟨np, pn⟩
  · rename_i da j _
    obtain ⟨pu, h1, h2, h3, kk⟩ := m
    cases r2
    cases r1 with
    | @tup a xs _ m1 s1 q1 =>
      have em := q1.pure_nil _ pu
      subst em
      have hlen := q1.length
      by_cases e1 : xs = [] ∨ j = 1
      · refine .inr (.inr (.inr (.inr (.inl ⟨a, j, xs, rfl, rfl, by rw [hK]; exact s1, e1, by omega, by omega, ?_⟩))))
        have ed : (List.replicate j.toNat da).flatten = da := by
          rcases e1 with e | e
          · have : da = [] := List.eq_nil_of_length_eq_zero (by rw [← hlen, e]; rfl)
            rw [this]; simp
          · rw [e]; simp
        rw [ed] at kk
        exact g.here kk (.tup s1 q1) o
      · have hx : xs ≠ [] := fun z => e1 (.inl z)
        have hj : j ≠ 1 := fun z => e1 (.inr z)
        by_cases j0 : j ≤ 0
        · refine .inr (.inr (.inr (.inr (.inr ⟨a, j, xs, rfl, rfl, by rw [hK]; exact s1, hx, j0, by omega, fun p np => ?_⟩))))
          have ed : (List.replicate j.toNat da).flatten = [] := by
            have : j.toNat = 0 := by omega
            rw [this]; rfl
          rw [ed] at kk
          exact g.newT (by rw [if_pos (show pureAll [] = true from rfl)]; exact kk) .nil o np fun a ha => by simp at ha
        · refine .inr (.inr (.inr (.inl ⟨a, j, xs, rfl, rfl, by rw [hK]; exact s1, hx, by omega, by omega, by omega, fun p np => ?_⟩)))
          have q2 := q1.rep j.toNat
          have en : (List.replicate j.toNat ([] : List Addr)).flatten = [] := by simp
          rw [en] at q2
          exact g.newT (by rw [if_pos (pureAll_rep da _ pu)]; exact kk) q2 o np fun a ha => by simp at ha

theorem does_mod : Does2 c X (binaryOp .Mod) (bop .mod) := by
  refine ⟨_, op_mod, fun Wo H v u d1 d2 n1 n2 w k Q r1 r2 o m g => ?_⟩
  unfold bop at m
  split at m <;> try contradiction
  cases r1; cases r2
  exact ⟨_, _, rfl, rfl, m.1, g.here m.2 (.int _) o⟩
theorem does_fdv : Does2 c X (binaryOp .FloorDiv) (bop .fdv) := by
  refine ⟨_, op_fdiv.or op_fdivW, fun Wo H v u d1 d2 n1 n2 w k Q r1 r2 o m g => ?_⟩
  unfold bop at m
  split at m <;> try contradiction
  cases r1; cases r2
  rcases m.1.2 with q | q
  · exact .inl ⟨_, _, rfl, rfl, ⟨m.1.1, q⟩, g.here m.2 (.int _) o⟩
  · exact .inr ⟨_, _, rfl, rfl, ⟨m.1.1, q⟩, g.here m.2 (.int _) o⟩
theorem does_pow : Does2 c X (binaryOp .Pow) (bop .pow) := by
  refine ⟨_, op_pow, fun Wo H v u d1 d2 n1 n2 w k Q r1 r2 o m g => ?_⟩
  unfold bop at m
  split at m <;> try contradiction
  cases r1; cases r2
  exact ⟨_, _, rfl, rfl, m.1, g.here m.2 (.int _) o⟩
theorem does_bop (hK : X.K = c.K) : ∀ o : Bo, Does2 c X (binaryOp (boOp o)) (bop o)
  | .add => does_add hK | .sub => does_sub | .mul => does_mul hK | .mod => does_mod | .fdv => does_fdv | .pow => does_pow

/-- two expressions, then a rule -/
theorem two_does {f : Value → Value → Sem Value} {M : D → D → (D → Nat → Prop) → Prop} (h1 : SE c X Wx a fv1 (wE T x)) (h2 : SE c X Wx b fv2 (wE T y)) (hd : Does2 c X f M) :
    ∃ r t1 t2, OpR X f r ∧ PE X a t1 ∧ PE X b t2 ∧ ∀ Wo nf ρ w σ H K E Q, SimE c.toKn Wo nf ρ w σ H → LiftK c.toKn Wo nf ρ (fv1 ++ fv2) H K Q → LiftX c Wo nf ρ σ H E Wx →
        wE T x ρ w (fun d1 _ w1 => wE T y ρ w1 (fun d2 _ w2 => M d1 d2 fun d fr => K d fr w2) E) E → tOp r t1 t2 σ H Q := by
  obtain ⟨r, ro, rd⟩ := hd
  obtain ⟨t1, p1, s1⟩ := id h1
  obtain ⟨t2, p2, s2⟩ := id h2
  refine ⟨r, t1, t2, ro, p1, p2, ?_⟩
  refine two (M := fun d1 d2 w K => M d1 d2 fun d fr => K d fr w) h1 h2 ?_ p1 p2 s1 s2
  intro Wo nf ρ H v u d1 d2 n1 n2 w K Q r1 r2 o m l
  refine rd Wo H v u d1 d2 n1 n2 w _ Q r1 r2 o m ?_
  intro d fr kd z ns H' rz kz oz og g1 g2
  exact l d fr w kd z ns H' rz kz oz (fun a ha => (og a ha).imp id List.mem_append.mp) g1 g2
theorem se_bin {o : Bo} (hK : X.K = c.K) (h1 : SE c X Wx a fv1 (wE T x)) (h2 : SE c X Wx b fv2 (wE T y)) : SE c X Wx (.BinOp a (boOp o) b pos) (fv1 ++ fv2) (wE T (.bin o x y)) := by
  obtain ⟨r, t1, t2, ro, p1, p2, rd⟩ := two_does h1 h2 (does_bop hK o)
  exact ⟨_, pe_op ro p1 p2, fun Wo nf ρ w σ H K E Q S l lx p => rd Wo nf ρ w σ H K E Q S l lx p⟩
theorem asI_cases {d : D} {k : Int → Prop} (h : asI d k) : ∃ i, d = .int i ∧ k i := by
  cases d <;> first | exact ⟨_, rfl, h⟩ | exact h.elim
theorem asB_cases {d : D} {k : Bool → Prop} (h : asB d k) : ∃ i, d = .bl i ∧ k i := by
  cases d <;> first | exact ⟨_, rfl, h⟩ | exact h.elim
theorem se_neg (h1 : SE c X Wx a fv1 (wE T x)) : SE c X Wx (.UnaryOp .USub a pos) fv1 (wE T (.neg x)) := by
  obtain ⟨t1, p1, s1⟩ := h1
  refine ⟨_, pe_un un_neg p1, fun Wo nf ρ w σ H K E Q S l lx p => ?_⟩
  refine s1 Wo nf ρ w σ H _ E _ S (fun d fr w1 k v n1 H1 r => ?_) lx p
  obtain ⟨i, rfl, k⟩ := asI_cases k
  have rp := r.rp
  cases rp
  exact ⟨i, rfl, l _ _ _ k _ [] _ (.pur (.int _) r.kp r.wok)⟩
end
end Ev

set_option Elab.async false
set_option linter.all false
set_option maxRecDepth 100000
set_option maxHeartbeats 4000000
/-! # EvH: comparisons, and, or, not, if, as values and as tests -/
namespace Ev
open PySem PySem.Spec PyProof.Rows L2

/-! ### tuples of ints, by < -/
def rLtT (K : PySem.W.Frag) : R2 := fun x y H Q => ∃ (p q : Addr) (ns ms : List Int), x = .ref p ∧ y = .ref q ∧ SqT K H p (ns.map V.int) ∧ SqT K H q (ms.map V.int) ∧ Q (.bl (ltI ns ms)) H
theorem int_at {us : List Value} {ns : List Int} (i : IntsAre us ns) (j : Nat) (h : j < us.toArray.size) : ∃ t, us.toArray[j] = .int (ns.getD j 0) t :=
  PyProof.Rows.IntsAre.int_at i _ _ (by simp at h; simp [h])
theorem op_ltT {X : Cx} (room : X.A.units < cLine) : OpR X (compareOp .Lt) (rLtT X.K) := by
  intro pins s σ H x y v u Q J rx ry h
  obtain ⟨p, q, ns, ms, rfl, rfl, hp, hq, w⟩ := h
  cases rx; cases ry
  obtain ⟨us, k1, t1, _⟩ := J.tuple hp
  obtain ⟨ws, k2, t2, _⟩ := J.tuple hq
  have i1 : IntsAre us ns := Vals.ints k1
  have i2 : IntsAre ws ms := Vals.ints k2
  have l1 : us.toArray.size = ns.length := by simpa using i1.length
  have l2 : ws.toArray.size = ms.length := by simpa using i2.length
  have go := Ob.RcOp.tuples_lt (A := X.A) (s := s) (e := fun j => decide (ns.getD j 0 = ms.getD j 0)) (r := fun j => decide (ns.getD j 0 < ms.getD j 0)) t1 t2 room
    (fun j h1 h2 => by
      obtain ⟨t, e1⟩ := int_at i1 j h1
      obtain ⟨t', e2⟩ := int_at i2 j h2
      rw [e1, e2, show decide (ns.getD j 0 = ms.getD j 0) = (ns.getD j 0 == ms.getD j 0) from rfl]
      exact SeqAt.EqAt.int_int _ _ _ _)
    (fun j h1 h2 _ => by
      obtain ⟨t, e1⟩ := int_at i1 j h1
      obtain ⟨t', e2⟩ := int_at i2 j h2
      rw [e1, e2]
      exact .lt_int _ _ _ _)
  rw [l1, l2] at go
  exact go X.prog X.w X.xe (EP X pins σ Q) ⟨.bl _, H, J, rfl, w⟩

/-! ### data -/
mutual
theorem D.lay : ∀ d : D, d.dat = true → d.py.canLay0 = true
  | .non, _ => rfl
  | .bl _, _ => rfl
  | .int _, _ => rfl
  | .str s, h => by simpa [D.dat, D.py, PyData.canLay0] using h
  | .tup ds, h => by simpa [D.py, PyData.canLay0] using layAll ds (by simpa [D.dat] using h)
  | .lst ds, h => by simpa [D.py, PyData.canLay0] using layAll ds (by simpa [D.dat] using h)
  | .fz ds, h => by simpa [D.py, PyData.canLay0] using layAll ds (by simpa [D.dat] using h)
  | .fn _, h => by simp [D.dat] at h
  | .wel, h => by simp [D.dat] at h
  | .dic _, h => by simp [D.dat] at h
theorem layAll : ∀ ds : List D, datAll ds = true → PyData.canLayAll0 (pyAll ds) = true
  | [], _ => rfl
  | d :: ds, h => by
    simp only [datAll, Bool.and_eq_true] at h
    simp [pyAll, PyData.canLayAll0, D.lay d h.1, layAll ds h.2]
end
mutual
theorem D.dpt : ∀ d : D, d.py.depth ≤ d.dep + 1
  | .non => by simp [D.py, PyData.depth]
  | .bl _ => by simp [D.py, PyData.depth]
  | .int _ => by simp [D.py, PyData.depth]
  | .str s => by simp [D.py, PyData.depth]
  | .tup ds => by simp only [D.py, PyData.depth, D.dep]; have := dptAll ds; omega
  | .lst ds => by simp only [D.py, PyData.depth, D.dep]; have := dptAll ds; omega
  | .fz ds => by simp only [D.py, PyData.depth, D.dep]; have := dptAll ds; omega
  | .fn _ => by simp [D.py, PyData.depth]
  | .wel => by simp [D.py, PyData.depth]
  | .dic kvs => by
    have : ∀ l : List (Str × Int), PyData.depthKv (l.map fun p => (PyData.str p.1, PyData.int p.2)) = 0 := by
      intro l
      induction l with
      | nil => rfl
      | cons p l ih => simp [PyData.depthKv, PyData.depth, ih]
    simp [D.py, PyData.depth, this, D.dep]
theorem dptAll : ∀ ds : List D, PyData.depthAll (pyAll ds) ≤ depAll ds + 1
  | [] => by simp [pyAll, PyData.depthAll]
  | d :: ds => by
    simp only [pyAll, PyData.depthAll, depAll]
    have h1 := D.dpt d
    have h2 := dptAll ds
    omega
end
theorem D.eqOk.shaped {d : D} (h : d.eqOk) : SeqAt.shaped d.py = true := by
  unfold SeqAt.shaped
  have := D.dpt d
  simp [D.lay d h.1, show d.py.depth ≤ 64 by have := h.2; omega]
section
variable {c : Kx} {Wo : Option Addr} {H : Hp}
mutual
theorem Rp.dp : ∀ (d : D) {v : V} {ns : List Addr}, Rp c.toKn Wo H v d ns → d.dat = true → Dp c.K H v d.py
  | .non, _, _, h, _ => by cases h; exact .non
  | .bl b, _, _, h, _ => by cases h; exact .bl b
  | .int i, _, _, h, _ => by cases h; exact .int i
  | .str x, _, _, h, _ => by cases h; exact .str x
  | .tup ds, _, _, h, q => by
    cases h with
    | tup s r => exact .tup s (RpA.dp ds r (by simpa [D.dat] using q))
  | .lst ds, _, _, h, q => by
    cases h with
    | lst s w r => exact .lst (SqL.of s) (RpA.dp ds r (by simpa [D.dat] using q))
  | .fz ds, _, _, h, q => by
    cases h with
    | lsf s r => exact .lst s.sq (RpA.dp ds r (by simpa [D.dat] using q))
  | .fn _, _, _, h, q => by simp [D.dat] at q
  | .wel, _, _, h, q => by simp [D.dat] at q
  | .dic _, _, _, h, q => by simp [D.dat] at q
theorem RpA.dp : ∀ (ds : List D) {vs : List V} {ns : List Addr}, RpA c.toKn Wo H vs ds ns → datAll ds = true → DpAll c.K H vs (pyAll ds)
  | [], _, _, h, _ => by cases h; exact .nil
  | d :: ds, _, _, h, q => by
    simp only [datAll, Bool.and_eq_true] at q
    cases h with
    | cons r1 r2 => exact .cons (Rp.dp d r1 q.1) (RpA.dp ds r2 q.2)
end
theorem Rp.flatV {v : V} {d : D} {ns : List Addr} (r : Rp c.toKn Wo H v d ns) (h : d.flat = true) : L2.flatV v = true := by
  cases r <;> first | rfl | simp [D.flat] at h
theorem RpA.flatV : ∀ {ds : List D} {vs : List V} {ns : List Addr}, RpA c.toKn Wo H vs ds ns → ds.all D.flat = true → vs.all L2.flatV = true
  | [], _, _, h, _ => by cases h; rfl
  | d :: ds, _, _, h, q => by
    simp only [List.all_cons, Bool.and_eq_true] at q
    cases h with
    | cons r1 r2 => simp [r1.flatV q.1, RpA.flatV r2 q.2]
theorem Rp.eqV {v u : V} {d e : D} {n1 n2 : List Addr} (r : Rp c.toKn Wo H v d n1) (s : Rp c.toKn Wo H u e n2) (h : d.flat = true) (h' : e.flat = true) : L2.eqV v u = eqD d e := by
  cases r <;> cases s <;> first | rfl | (simp [D.flat] at h; done) | (simp [D.flat] at h'; done)
theorem RpA.inV {u : V} {e : D} {n2 : List Addr} (s : Rp c.toKn Wo H u e n2) (h' : e.flat = true) : ∀ {ds : List D} {vs : List V} {ns : List Addr}, RpA c.toKn Wo H vs ds ns → ds.all D.flat = true → L2.inV u vs = ds.any fun z => eqD z e
  | [], _, _, h, _ => by cases h; rfl
  | d :: ds, _, _, h, q => by
    simp only [List.all_cons, Bool.and_eq_true] at q
    cases h with
    | cons r1 r2 =>
      have ih := RpA.inV s h' r2 q.2
      unfold L2.inV at ih ⊢
      rw [List.any_cons, List.any_cons, ih, r1.eqV s q.1 h']
end

section
variable {c : Kx} {X : Cx} {Wx : WX} {T : Tab} {e a b d' : Expr} {es : List Expr} {fv fv1 fv2 fv3 : List Nat} {pos : Pos} {x y z : Ex}

def coOp : Co → CmpOp
  | .eq => .Eq | .ne => .NotEq | .lt => .Lt | .le => .LtE | .gt => .Gt | .ge => .GtE | .isN => .Is | .notN => .IsNot | .inn => .In | .nin => .NotIn | .ltT => .Lt
/-- a comparison's reading, as of a value -/
def copD (o : Co) (d1 d2 : D) (k : D → Nat → Prop) : Prop := cop o d1 d2 fun z => k (.bl z) 2
def noSet : Expr → Bool
  | .Set _ _ _ => false
  | _ => true
theorem noSet_in {op : CmpOp} (h : noSet b = true) : behindInMarks op b = false := by
  cases b <;> first | rfl | simp [noSet] at h
theorem isStr_cases {d : D} (h : d.isStr = true) : ∃ s, d = .str s := by
  cases d <;> first
    | exact ⟨_, rfl⟩
    | cases h
theorem str_dec {s t : Str} : decide (V.str s = V.str t) = eqD (.str s) (.str t) := by
  show decide (V.str s = V.str t) = (s == t)
  rw [Bool.eq_iff_iff]
  simp
theorem ints_vals {Wo : Option Addr} {H : Hp} : ∀ {ds : List D} {vs : List V} {ns : List Addr} {ks : List Int}, RpA c.toKn Wo H vs ds ns → intsOf ds = some ks → vs = ks.map V.int
  | [], _, _, _, r, h => by cases r; cases h; rfl
  | d :: ds, _, _, _, r, h => by
    cases r with
    | cons r1 r2 =>
      cases d with
      | int i =>
        simp only [intsOf, Option.map_eq_some_iff] at h
        obtain ⟨ks, h, rfl⟩ := h
        cases r1
        rw [ints_vals r2 h]; rfl
      | _ => simp [intsOf] at h
/-! ### a sequence beside an empty one -/
def nilSq (K : PySem.W.Frag) (H : Hp) (x y : V) (b : Bool) : Prop := ∃ p q xs, x = .ref p ∧ y = .ref q ∧ b = xs.isEmpty ∧ ((SqL K H p xs ∧ SqL K H q []) ∨ (SqT K H p xs ∧ SqT K H q []))
def rEqN (K : PySem.W.Frag) : R2 := fun x y H Q => ∃ b, nilSq K H x y b ∧ Q (.bl b) H
def rNeN (K : PySem.W.Frag) : R2 := fun x y H Q => ∃ b, nilSq K H x y b ∧ Q (.bl (!b)) H
theorem op_eqN (hu : X.A.units < cLine) : OpR X (compareOp .Eq) (rEqN X.K) := by
  intro pins s σ H x y v u Q I rx ry h
  obtain ⟨b, ⟨p, q, xs, rfl, rfl, rfl, ⟨h1, h2⟩ | ⟨h1, h2⟩⟩, k⟩ := h
  · cases rx; cases ry
    obtain ⟨i1, v1, l1, _⟩ := I.list h1
    obtain ⟨i2, v2, l2, _⟩ := I.list h2
    cases v2
    have e := v1.length
    cases xs with
    | nil =>
      cases v1
      exact SeqAt.eq_listAt (e := fun _ => true) l1.isList l2.isList rfl hu (fun j h => absurd h (by simp)) ⟨.bl _, H, I, rfl, k⟩
    | cons x xs => exact SeqAt.eq_list_lengthsAt l1.isList l2.isList (by cases v1; simp) hu ⟨.bl _, H, I, rfl, k⟩
  · cases rx; cases ry
    obtain ⟨i1, v1, l1, _⟩ := I.tuple h1
    obtain ⟨i2, v2, l2, _⟩ := I.tuple h2
    cases v2
    have e := v1.length
    refine SeqAt.eq_tupleAt (e := fun _ => true) l1 l2 hu (fun j h h' => absurd h' (by simp)) ⟨.bl xs.isEmpty, H, I, ?_, k⟩
    cases xs with
    | nil => cases v1; rfl
    | cons x xs => cases v1; rfl
theorem op_neN (hu : X.A.units < cLine) : OpR X (compareOp .NotEq) (rNeN X.K) := by
  intro pins s σ H x y v u Q I rx ry h
  obtain ⟨b, ⟨p, q, xs, rfl, rfl, rfl, ⟨h1, h2⟩ | ⟨h1, h2⟩⟩, k⟩ := h
  · cases rx; cases ry
    obtain ⟨i1, v1, l1, _⟩ := I.list h1
    obtain ⟨i2, v2, l2, _⟩ := I.list h2
    cases v2
    have e := v1.length
    cases xs with
    | nil =>
      cases v1
      exact SeqAt.RcNeAt.lists (e := fun _ => true) l1.isList l2.isList rfl hu (fun j h => absurd h (by simp)) _ _ _ _ ⟨.bl _, H, I, rfl, k⟩
    | cons x xs => exact SeqAt.RcNeAt.lists_lengths l1.isList l2.isList (by cases v1; simp) hu _ _ _ _ ⟨.bl _, H, I, rfl, k⟩
  · cases rx; cases ry
    obtain ⟨i1, v1, l1, _⟩ := I.tuple h1
    obtain ⟨i2, v2, l2, _⟩ := I.tuple h2
    cases v2
    have e := v1.length
    refine SeqAt.RcNeAt.tuples (e := fun _ => true) l1 l2 hu (fun j h h' => absurd h' (by simp)) _ _ _ _ ⟨.bl (!xs.isEmpty), H, I, ?_, k⟩
    cases xs with
    | nil => cases v1; rfl
    | cons x xs => cases v1; rfl
theorem nil_two (hK : X.K = c.K) {Wo : Option Addr} {H : Hp} {v u : V} {d1 d2 : D} {n1 n2 : List Addr} {P : Bool → Prop} (r1 : Rp c.toKn Wo H v d1 n1) (r2 : Rp c.toKn Wo H u d2 n2) (h : nilP d1 d2 = true) (p : P (eqD d1 d2)) :
    ∃ b, nilSq X.K H v u b ∧ P b := by
  refine ⟨_, ?_, p⟩
  unfold nilP at h
  split at h
  · cases r1 with
    | @lst a xs _ m s1 w1 q1 =>
      cases r2 with
      | @lst b ys _ m2 s2 w2 q2 =>
        cases q2
        refine ⟨a, b, xs, rfl, rfl, ?_, .inl ⟨SqL.of s1, SqL.of s2⟩⟩
        cases q1 <;> rfl
  · cases r1 with
    | @tup a xs _ m s1 q1 =>
      cases r2 with
      | @tup b ys _ m2 s2 q2 =>
        cases q2
        refine ⟨a, b, xs, rfl, rfl, ?_, .inr ⟨by rw [hK]; exact s1, by rw [hK]; exact s2⟩⟩
        cases q1 <;> rfl
  · cases h
theorem isLs_cases {y : D} {ds : List D} (h : isLs y = true) (hi : items y = some ds) : y = .lst ds := by
  cases y <;> first | (cases hi; rfl) | (simp [isLs] at h; done)
theorem any_py {x : D} : ∀ ds : List D, (pyAll ds).any (fun z => PyData.eqv z x.py) = ds.any fun z => eqD z x
  | [] => rfl
  | d :: ds => by simp [pyAll, any_py ds, eqD]
theorem does_cop (hK : X.K = c.K) {k : Nat} (hr : Room k X.A) : ∀ o : Co, Does2 c X (compareOp (coOp o)) (copD o)
  | .eq => by
    refine ⟨_, OpR.or (op_eqD hr.units) (OpR.or op_eq (op_eqN (Nat.lt_of_le_of_lt (Nat.le_add_right _ _) hr.units))), fun Wo H v u d1 d2 n1 n2 w k Q r1 r2 o m g => ?_⟩
    obtain ⟨⟨h1, h2⟩ | ⟨h1, h2⟩ | h1, kk⟩ := m
    · exact .inl ⟨_, _, by rw [hK]; exact r1.dp d1 h1.1, by rw [hK]; exact r2.dp d2 h2.1, h1.shaped, h2.shaped, g.here kk (.bl _) o⟩
    · obtain ⟨s, rfl⟩ := isStr_cases h1
      obtain ⟨t, rfl⟩ := isStr_cases h2
      cases r1; cases r2
      refine .inr (.inl ⟨rfl, ?_⟩)
      rw [str_dec]
      exact g.here kk (.bl _) o
    · exact .inr (.inr (nil_two hK r1 r2 h1 (g.here kk (.bl _) o)))
  | .ne => by
    refine ⟨_, OpR.or (op_neD hr.units) (OpR.or op_ne (op_neN (Nat.lt_of_le_of_lt (Nat.le_add_right _ _) hr.units))), fun Wo H v u d1 d2 n1 n2 w k Q r1 r2 o m g => ?_⟩
    obtain ⟨⟨h1, h2⟩ | ⟨h1, h2⟩ | h1, kk⟩ := m
    · exact .inl ⟨_, _, by rw [hK]; exact r1.dp d1 h1.1, by rw [hK]; exact r2.dp d2 h2.1, h1.shaped, h2.shaped, g.here kk (.bl _) o⟩
    · obtain ⟨s, rfl⟩ := isStr_cases h1
      obtain ⟨t, rfl⟩ := isStr_cases h2
      cases r1; cases r2
      refine .inr (.inl ⟨rfl, ?_⟩)
      rw [str_dec]
      exact g.here kk (.bl _) o
    · exact .inr (.inr (nil_two hK r1 r2 h1 (g.here kk (.bl _) o)))
  | .lt => by
    refine ⟨_, op_lt, fun Wo H v u d1 d2 n1 n2 w k Q r1 r2 o m g => ?_⟩
    obtain ⟨i, rfl, m⟩ := asI_cases m
    obtain ⟨j, rfl, m⟩ := asI_cases m
    cases r1; cases r2
    exact ⟨_, _, rfl, rfl, g.here m (.bl _) o⟩
  | .ltT => by
    refine ⟨_, op_ltT (Nat.lt_of_le_of_lt (Nat.le_add_right _ _) hr.units), fun Wo H v u d1 d2 n1 n2 w k Q r1 r2 o m g => ?_⟩
    unfold copD cop at m
    simp only at m
    split at m <;> try contradiction
    obtain ⟨ns, ms, e1, e2, m⟩ := m
    cases r1 with
    | @tup p us _ m1 s1 q1 =>
      cases r2 with
      | @tup q ws _ m2 s2 q2 =>
        have z1 := ints_vals q1 e1
        have z2 := ints_vals q2 e2
        subst z1 z2
        exact ⟨p, q, ns, ms, rfl, rfl, by rw [hK]; exact s1, by rw [hK]; exact s2, g.here m (.bl _) o⟩
  | .le => by
    refine ⟨_, op_le, fun Wo H v u d1 d2 n1 n2 w k Q r1 r2 o m g => ?_⟩
    obtain ⟨i, rfl, m⟩ := asI_cases m
    obtain ⟨j, rfl, m⟩ := asI_cases m
    cases r1; cases r2
    exact ⟨_, _, rfl, rfl, g.here m (.bl _) o⟩
  | .gt => by
    refine ⟨_, op_gt, fun Wo H v u d1 d2 n1 n2 w k Q r1 r2 o m g => ?_⟩
    obtain ⟨i, rfl, m⟩ := asI_cases m
    obtain ⟨j, rfl, m⟩ := asI_cases m
    cases r1; cases r2
    exact ⟨_, _, rfl, rfl, g.here m (.bl _) o⟩
  | .ge => by
    refine ⟨_, op_ge, fun Wo H v u d1 d2 n1 n2 w k Q r1 r2 o m g => ?_⟩
    obtain ⟨i, rfl, m⟩ := asI_cases m
    obtain ⟨j, rfl, m⟩ := asI_cases m
    cases r1; cases r2
    exact ⟨_, _, rfl, rfl, g.here m (.bl _) o⟩
  | .isN => by
    refine ⟨_, op_isN.or op_isBl, fun Wo H v u d1 d2 n1 n2 w k Q r1 r2 o m g => ?_⟩
    unfold copD cop at m
    simp only at m
    split at m <;> try contradiction
    · cases r2
      refine .inl ⟨rfl, g.here m ?_ o⟩
      have e : isNon d1 = decide (v = V.non) := by cases r1 <;> simp [isNon]
      rw [e]; exact .bl _
    · cases r1; cases r2
      exact .inr ⟨_, _, rfl, rfl, g.here m (.bl _) o⟩
  | .notN => by
    refine ⟨_, op_notN.or op_notBl, fun Wo H v u d1 d2 n1 n2 w k Q r1 r2 o m g => ?_⟩
    unfold copD cop at m
    simp only at m
    split at m <;> try contradiction
    · cases r2
      refine .inl ⟨rfl, g.here m ?_ o⟩
      have e : isNon d1 = decide (v = V.non) := by cases r1 <;> simp [isNon]
      rw [e]; exact .bl _
    · cases r1; cases r2
      exact .inr ⟨_, _, rfl, rfl, g.here m (.bl _) o⟩
  | .inn => by
    refine ⟨_, OpR.or op_in_seq (op_inD (by have := hr.un; omega)), fun Wo H v u d1 d2 n1 n2 w k Q r1 r2 o m g => ?_⟩
    obtain ⟨ds, hi, ⟨f1, f2⟩ | ⟨f1, f2, f3⟩, mm⟩ := asS_cases m
    · obtain ⟨a, xs, m', rfl, hs, rm, _, _⟩ := seq_of (K := X.K) r2 hi
      refine .inl ⟨a, xs, rfl, by rw [hK]; exact hs.symm, r1.flatV f1, rm.flatV f2, ?_⟩
      rw [if_neg (by decide), rm.inV r1 f1 f2]
      exact g.here mm (.bl _) o
    · obtain ⟨rfl⟩ := isLs_cases f3 hi
      refine .inr ⟨_, _, by rw [hK]; exact r1.dp d1 f1.1, by rw [hK]; exact r2.dp _ f2.1, f1.shaped, f2.shaped, ?_⟩
      rw [any_py]
      exact g.here mm (.bl _) o
  | .nin => by
    refine ⟨_, OpR.or op_notIn_seq (op_notInD (by have := hr.un; omega)), fun Wo H v u d1 d2 n1 n2 w k Q r1 r2 o m g => ?_⟩
    obtain ⟨ds, hi, ⟨f1, f2⟩ | ⟨f1, f2, f3⟩, mm⟩ := asS_cases m
    · obtain ⟨a, xs, m', rfl, hs, rm, _, _⟩ := seq_of (K := X.K) r2 hi
      refine .inl ⟨a, xs, rfl, by rw [hK]; exact hs.symm, r1.flatV f1, rm.flatV f2, ?_⟩
      rw [if_pos rfl, rm.inV r1 f1 f2]
      exact g.here mm (.bl _) o
    · obtain ⟨rfl⟩ := isLs_cases f3 hi
      refine .inr ⟨_, _, by rw [hK]; exact r1.dp d1 f1.1, by rw [hK]; exact r2.dp _ f2.1, f1.shaped, f2.shaped, ?_⟩
      rw [any_py]
      exact g.here mm (.bl _) o

/-- a test, of an expression that gives a bool -/
theorem LiftB {Wo : Option Addr} {nf : Nat → List Addr} {ρ : Slots} {H : Hp} {K : Bool → Wl → Prop} {Q : Bool → Hp → Prop} (l : ∀ b w', K b w' → ∀ H', Kp (Ws Wo) H H' → WOk c.toKn Wo w' H' → Q b H') :
    LiftK c.toKn Wo nf ρ fv H (fun d _ w' => asB d fun b => K b w') (fun v H' => ∃ k, v = .bl k ∧ Q k H') := by
  intro d fr w' k v ns H' r
  obtain ⟨b, rfl, k⟩ := asB_cases k
  have rp := r.rp
  cases rp
  exact ⟨b, rfl, l b w' k H' r.kp r.wok⟩
theorem se_cmp {o : Co} {k : Nat} (hK : X.K = c.K) (hr : Room k X.A) (h1 : SE c X Wx a fv1 (wE T x)) (h2 : SE c X Wx b fv2 (wE T y)) (hs : noSet b = true) : SE c X Wx (.Compare a [coOp o] [b] pos) (fv1 ++ fv2) (wE T (.cmp o x y)) := by
  obtain ⟨r, t1, t2, ro, p1, p2, rd⟩ := two_does h1 h2 (does_cop hK hr o)
  exact ⟨_, pe_cmpR ro p1 p2 (noSet_in hs), fun Wo nf ρ w σ H K E Q S l lx p => rd Wo nf ρ w σ H K E Q S l lx p⟩
theorem st_cmp {o : Co} {k : Nat} (hK : X.K = c.K) (hr : Room k X.A) (h1 : SE c X Wx a fv1 (wE T x)) (h2 : SE c X Wx b fv2 (wE T y)) (hs : noSet b = true) : STt c X Wx (.Compare a [coOp o] [b] pos) (wE T (.cmp o x y)) := by
  obtain ⟨r, t1, t2, ro, p1, p2, rd⟩ := two_does h1 h2 (does_cop hK hr o)
  exact ⟨_, pt_cmpR ro p1 p2 (noSet_in hs), fun Wo nf ρ w σ H K E Q S l lx p => rd Wo nf ρ w σ H _ E _ S (LiftB l) lx p⟩

/-! ### chains -/
theorem chain_rd {o p : Co} {k : Nat} {hK : X.K = c.K} {hr : Room k X.A} (h1 : SE c X Wx a fv1 (wE T x)) (h2 : SE c X Wx b fv2 (wE T y)) (h3 : SE c X Wx d' fv3 (wE T z)) :
    ∃ r r' t1 t2 t3, OpR X (compareOp (coOp o)) r ∧ OpR X (compareOp (coOp p)) r' ∧ PE X a t1 ∧ PE X b t2 ∧ PE X d' t3 ∧ ∀ Wo nf ρ w σ H K E Q, SimE c.toKn Wo nf ρ w σ H → LiftK c.toKn Wo nf ρ fv H K Q → LiftX c Wo nf ρ σ H E Wx →
      wE T (.chn o p x y z) ρ w K E → tChain r r' t1 t2 t3 σ H Q := by
  obtain ⟨r, ro, rd⟩ := does_cop hK hr o
  obtain ⟨r', ro', rd'⟩ := does_cop hK hr p
  obtain ⟨t1, p1, s1⟩ := h1
  obtain ⟨t2, p2, s2⟩ := h2
  obtain ⟨t3, p3, s3⟩ := h3
  refine ⟨r, r', t1, t2, t3, ro, ro', p1, p2, p3, fun Wo nf ρ w σ H K E Q S l lx pp => ?_⟩
  refine s1 Wo nf ρ w σ H _ E _ S (fun d1 f1 w1 k1 v n1 H1 r1 => ?_) lx pp
  refine s2 Wo nf ρ w1 σ H1 _ E _ (r1.sim S) (fun d2 f2 w2 k2 u n2 H2 r2 => ?_) (lx.step r1.kp) k1
  have r1' := r1.later r2.kp r2.wok
  have k12 := r1.kp.trans r2.kp
  refine rd Wo H2 v u d1 d2 n1 n2 w2 _ _ r1'.rp r2.rp r2.wok (show copD o d1 d2 (fun z' _ => asB z' fun z' => if z' = true then _ else _) from k2) ?_
  intro d fr kd q ns H3 rz kz oz og g1 g2
  obtain ⟨bb, rfl, kd'⟩ := asB_cases kd
  cases rz
  refine ⟨bb, rfl, ?_⟩
  have S3 := (S.step (w' := w2) k12 r2.wok).step (w' := w2) kz oz
  by_cases hb : bb = true
  · rw [if_pos hb] at kd' ⊢
    refine s3 Wo nf ρ w2 σ H3 _ E _ S3 (fun d3 f3 w3 k3 u3 n3 H4 r3 => ?_) (lx.step (k12.trans kz)) kd'
    have rr2 := (r2.rp.kp kz r2.wok.ls).kp r3.kp oz.ls
    refine rd' Wo H4 u u3 d2 d3 n2 n3 w3 _ Q rr2 r3.rp r3.wok (show copD p d2 d3 (fun z' _ => asB z' fun z' => K (.bl z') 2 w3) from k3) ?_
    intro d fr kd2 q ns H5 rz5 kz5 oz5 og5 g15 g25
    obtain ⟨b5, rfl, kd5⟩ := asB_cases kd2
    cases rz5
    exact l _ _ w3 kd5 _ [] H5 (.pur (.bl b5) ((((k12.trans kz).trans r3.kp)).trans kz5) oz5)
  · rw [if_neg hb] at kd' ⊢
    exact l _ _ w2 kd' _ [] H3 (.pur (.bl false) (k12.trans kz) oz)
theorem se_chn {o p : Co} {k : Nat} (hK : X.K = c.K) (hr : Room k X.A) (h1 : SE c X Wx a fv1 (wE T x)) (h2 : SE c X Wx b fv2 (wE T y)) (h3 : SE c X Wx d' fv3 (wE T z)) (hs : noSet d' = true) :
    SE c X Wx (.Compare a [coOp o, coOp p] [b, d'] pos) fv (wE T (.chn o p x y z)) := by
  obtain ⟨r, r', t1, t2, t3, ro, ro', p1, p2, p3, rd⟩ := chain_rd (fv := fv) (hK := hK) (hr := hr) h1 h2 h3
  exact ⟨_, pe_chain ro ro' p1 p2 p3 (noSet_in hs), fun Wo nf ρ w σ H K E Q S l lx p => rd Wo nf ρ w σ H K E Q S l lx p⟩
theorem chn_asB {o p : Co} {ρ : Slots} {w : Wl} {K : KE} {E : XQ} : True := trivial
theorem st_chn {o p : Co} {k : Nat} (hK : X.K = c.K) (hr : Room k X.A) (h1 : SE c X Wx a fv1 (wE T x)) (h2 : SE c X Wx b fv2 (wE T y)) (h3 : SE c X Wx d' fv3 (wE T z)) (hs : noSet d' = true) :
    STt c X Wx (.Compare a [coOp o, coOp p] [b, d'] pos) (wE T (.chn o p x y z)) := by
  obtain ⟨r, r', t1, t2, t3, ro, ro', p1, p2, p3, rd⟩ := chain_rd (fv := []) (hK := hK) (hr := hr) h1 h2 h3
  exact ⟨_, pt_chain ro ro' p1 p2 p3 (noSet_in hs), fun Wo nf ρ w σ H K E Q S l lx p => rd Wo nf ρ w σ H _ E _ S (LiftB l) lx p⟩

/-! ### a value that is a bool, as a test -/
/-- tests of these are of their values -/
def plainT : Expr → Bool
  | .Call _ _ _ _ => true
  | .Name _ _ => true
  | .Constant _ _ _ => true
  | .Subscript _ _ _ => true
  | .IfExp _ _ _ _ => false
  | _ => false
theorem plainT_is (h : plainT e = true) : ∀ whole, isTrue e X.env whole = (do let v ← whole; standAt e.pos; holding [v] (truthy v)) := by
  cases e <;> first | (intro _; rfl) | simp [plainT] at h
theorem st_val {P : Slots → Wl → KE → XQ → Prop} (h : SE c X Wx e fv P) (hp : plainT e = true) : STt c X Wx e P := by
  obtain ⟨t, ht, hs⟩ := h
  exact ⟨_, pt_val ht (plainT_is hp), fun Wo nf ρ w σ H K E Q S l lx p => hs Wo nf ρ w σ H _ E _ S (LiftB l) lx p⟩

/-! ### not, if -/
theorem se_nt (h : SE c X Wx a fv (wE T x)) : SE c X Wx (.UnaryOp .Not a pos) fv (wE T (.nt x)) := by
  obtain ⟨t, ht, hs⟩ := h
  refine ⟨_, pe_not ht, fun Wo nf ρ w σ H K E Q S l lx p => ?_⟩
  refine hs Wo nf ρ w σ H _ E _ S (fun d f w1 k v n H1 r => ?_) lx p
  obtain ⟨b, rfl, k⟩ := asB_cases k
  have rp := r.rp
  cases rp
  exact ⟨b, rfl, l _ _ w1 k _ [] H1 (.pur (.bl _) r.kp r.wok)⟩
theorem asB_nt {K : Bool → Wl → Prop} {w : Wl} {d : D} (h : asB d fun z => asB (.bl (!z)) fun b => K b w) : asB d fun b => K (!b) w := by
  obtain ⟨b, rfl, k⟩ := asB_cases h
  exact k
theorem st_nt (h : STt c X Wx a (wE T x)) : STt c X Wx (.UnaryOp .Not a pos) (wE T (.nt x)) := by
  obtain ⟨t, ht, hs⟩ := h
  refine ⟨_, pt_not ht, fun Wo nf ρ w σ H K E Q S l lx p => ?_⟩
  exact hs Wo nf ρ w σ H (fun b w' => K (!b) w') E _ S (fun b w' k H' kp o => l (!b) w' k H' kp o) lx p
theorem se_ife {d1 : Expr} (hc : STt c X Wx d1 (wE T z)) (h1 : SE c X Wx a fv1 (wE T x)) (h2 : SE c X Wx b fv2 (wE T y)) : SE c X Wx (.IfExp d1 a b pos) (fv3 ++ (fv1 ++ fv2)) (wE T (.ife z x y)) := by
  obtain ⟨t, ht, hs⟩ := hc
  obtain ⟨t1, p1, s1⟩ := h1
  obtain ⟨t2, p2, s2⟩ := h2
  refine ⟨_, pe_ifExp ht p1 p2, fun Wo nf ρ w σ H K E Q S l lx p => ?_⟩
  refine hs Wo nf ρ w σ H (fun b w1 => if b = true then wE T x ρ w1 K E else wE T y ρ w1 K E) E _ S (fun b w1 k H1 kp o => ?_) lx p
  have S1 := S.step (w' := w1) kp o
  cases b with
  | true => exact s1 Wo nf ρ w1 σ H1 K E Q S1 (fun d f w2 k2 v n H2 r => l d f w2 k2 v n H2 ((r.behind kp).mono fun i hi => by simp [hi])) (lx.step kp) k
  | false => exact s2 Wo nf ρ w1 σ H1 K E Q S1 (fun d f w2 k2 v n H2 r => l d f w2 k2 v n H2 ((r.behind kp).mono fun i hi => by simp [hi])) (lx.step kp) k

/-! ### and, or -/
/-- the rest of an and (or), whatever stands ahead -/
def SAnd (c : Kx) (X : Cx) (Wx : WX) (op : BoolOp) (es : List Expr) (P : Slots → Wl → KE → XQ → Prop) (pos : Pos) (fv : List Nat) : Prop := SE c X Wx (.BoolOp op es pos) fv P
def STand (c : Kx) (X : Cx) (Wx : WX) (op : BoolOp) (es : List Expr) (P : Slots → Wl → KE → XQ → Prop) (pos : Pos) : Prop :=
  ∃ t, PW X (.BoolOp op es pos) t ∧ ∀ Wo nf ρ w σ H (K : Bool → Wl → Prop) E (Q : Bool → Hp → Prop), SimE c.toKn Wo nf ρ w σ H →
    (∀ b w', K b w' → ∀ H', Kp (Ws Wo) H H' → WOk c.toKn Wo w' H' → Q b H') → LiftX c Wo nf ρ σ H E Wx → P ρ w (fun d _ w' => asB d fun b => K b w') E → t σ H Q
theorem se_and1 (h : SE c X Wx a fv (wE T x)) : SE c X Wx (.BoolOp .And [a] pos) fv (wAnd T (.cons x .nil)) := by
  obtain ⟨t, ht, hs⟩ := h
  exact ⟨t, pe_one ht, hs⟩
theorem se_or1 (h : SE c X Wx a fv (wE T x)) : SE c X Wx (.BoolOp .Or [a] pos) fv (wOr T (.cons x .nil)) := by
  obtain ⟨t, ht, hs⟩ := h
  exact ⟨t, pe_one ht, hs⟩
theorem and_step (h1 : SE c X Wx a fv1 (wE T x)) {rest : List Expr} {P : Slots → Wl → KE → XQ → Prop} (h2 : SE c X Wx (.BoolOp .And (b :: rest) pos) fv2 P) :
    SE c X Wx (.BoolOp .And (a :: b :: rest) pos) (fv1 ++ fv2) (fun ρ w K E => wE T x ρ w (fun d _ w1 => asB d fun z => if z = true then P ρ w1 K E else K (.bl false) 2 w1) E) := by
  obtain ⟨t1, p1, s1⟩ := h1
  obtain ⟨t2, p2, s2⟩ := h2
  refine ⟨_, pe_and p1 p2, fun Wo nf ρ w σ H K E Q S l lx p => ?_⟩
  refine s1 Wo nf ρ w σ H _ E _ S (fun d f w1 k v n H1 r => ?_) lx p
  obtain ⟨z, rfl, k⟩ := asB_cases k
  have rp := r.rp
  cases rp
  refine ⟨z, rfl, ?_⟩
  cases z with
  | true => exact s2 Wo nf ρ w1 σ H1 K E Q (r.sim S) (fun d f w2 k2 v n H2 r2 => l d f w2 k2 v n H2 ((r2.behind r.kp).mono fun i hi => by simp [hi])) (lx.step r.kp) k
  | false => exact l _ _ w1 k _ [] H1 (.pur (.bl _) r.kp r.wok)
theorem or_step (h1 : SE c X Wx a fv1 (wE T x)) {rest : List Expr} {P : Slots → Wl → KE → XQ → Prop} (h2 : SE c X Wx (.BoolOp .Or (b :: rest) pos) fv2 P) :
    SE c X Wx (.BoolOp .Or (a :: b :: rest) pos) (fv1 ++ fv2) (fun ρ w K E => wE T x ρ w (fun d _ w1 => asB d fun z => if z = true then K (.bl true) 2 w1 else P ρ w1 K E) E) := by
  obtain ⟨t1, p1, s1⟩ := h1
  obtain ⟨t2, p2, s2⟩ := h2
  refine ⟨_, pe_or p1 p2, fun Wo nf ρ w σ H K E Q S l lx p => ?_⟩
  refine s1 Wo nf ρ w σ H _ E _ S (fun d f w1 k v n H1 r => ?_) lx p
  obtain ⟨z, rfl, k⟩ := asB_cases k
  have rp := r.rp
  cases rp
  refine ⟨z, rfl, ?_⟩
  cases z with
  | false => exact s2 Wo nf ρ w1 σ H1 K E Q (r.sim S) (fun d f w2 k2 v n H2 r2 => l d f w2 k2 v n H2 ((r2.behind r.kp).mono fun i hi => by simp [hi])) (lx.step r.kp) k
  | true => exact l _ _ w1 k _ [] H1 (.pur (.bl _) r.kp r.wok)
theorem st_and1 (h : STt c X Wx a (wE T x)) : STand c X Wx .And [a] (wAnd T (.cons x .nil)) pos := by
  obtain ⟨t, ht, hs⟩ := h
  exact ⟨t, pw_and1 ht, hs⟩
theorem st_or1 (h : STt c X Wx a (wE T x)) : STand c X Wx .Or [a] (wOr T (.cons x .nil)) pos := by
  obtain ⟨t, ht, hs⟩ := h
  exact ⟨t, pw_or1 ht, hs⟩
theorem STand.st {op : BoolOp} {P : Slots → Wl → KE → XQ → Prop} (h : STand c X Wx op es P pos) : STt c X Wx (.BoolOp op es pos) P := by
  obtain ⟨t, ht, hs⟩ := h
  exact ⟨t, PW.pt ht, hs⟩
theorem st_and_step (h1 : STt c X Wx a (wE T x)) {rest : List Expr} {P : Slots → Wl → KE → XQ → Prop} (h2 : STand c X Wx .And (b :: rest) P pos) :
    STand c X Wx .And (a :: b :: rest) (fun ρ w K E => wE T x ρ w (fun d _ w1 => asB d fun z => if z = true then P ρ w1 K E else K (.bl false) 2 w1) E) pos := by
  obtain ⟨t1, p1, s1⟩ := h1
  obtain ⟨t2, p2, s2⟩ := h2
  refine ⟨_, pw_and p1 p2, fun Wo nf ρ w σ H K E Q S l lx p => ?_⟩
  refine s1 Wo nf ρ w σ H (fun z w1 => if z = true then P ρ w1 (fun d _ w' => asB d fun b => K b w') E else K false w1) E _ S (fun z w1 k H1 kp o => ?_) lx p
  cases z with
  | true => exact s2 Wo nf ρ w1 σ H1 K E Q (S.step kp o) (fun b w2 k2 H2 kp2 o2 => l b w2 k2 H2 (kp.trans kp2) o2) (lx.step kp) k
  | false => exact l false w1 k H1 kp o
theorem st_or_step (h1 : STt c X Wx a (wE T x)) {rest : List Expr} {P : Slots → Wl → KE → XQ → Prop} (h2 : STand c X Wx .Or (b :: rest) P pos) :
    STand c X Wx .Or (a :: b :: rest) (fun ρ w K E => wE T x ρ w (fun d _ w1 => asB d fun z => if z = true then K (.bl true) 2 w1 else P ρ w1 K E) E) pos := by
  obtain ⟨t1, p1, s1⟩ := h1
  obtain ⟨t2, p2, s2⟩ := h2
  refine ⟨_, pw_or p1 p2, fun Wo nf ρ w σ H K E Q S l lx p => ?_⟩
  refine s1 Wo nf ρ w σ H (fun z w1 => if z = true then K true w1 else P ρ w1 (fun d _ w' => asB d fun b => K b w') E) E _ S (fun z w1 k H1 kp o => ?_) lx p
  cases z with
  | false => exact s2 Wo nf ρ w1 σ H1 K E Q (S.step kp o) (fun b w2 k2 H2 kp2 o2 => l b w2 k2 H2 (kp.trans kp2) o2) (lx.step kp) k
  | true => exact l true w1 k H1 kp o
end
end Ev

set_option Elab.async false
set_option linter.all false
set_option maxRecDepth 100000
set_option maxHeartbeats 4000000
/-! # EvI: items, slices, built-ins -/
namespace Ev
open PySem PySem.Spec PyProof.Rows L2

section
variable {c : Kx} {X : Cx} {Wx : WX} {T : Tab} {e a b d' : Expr} {es : List Expr} {fv fv1 fv2 fv3 : List Nat} {pos : Pos} {x y z : Ex}

/-! ### items -/
def noSlice : Expr → Bool
  | .Slice _ _ _ _ => false
  | _ => true
theorem noSlice_ix (h : noSlice b = true) : PlainIx b := by
  intro o i
  cases b <;> first | rfl | simp [noSlice] at h
theorem atI_some {α β : Type} {xs : List α} {ds : List β} {j : Int} {d : β} (hl : xs.length = ds.length) (h : atI ds j = some d) : ∃ n : Nat, ds[n]? = some d ∧ ∀ v, xs[n]? = some v → atI xs j = some v := by
  unfold atI at h ⊢
  cases q : ixN ds.length j with
  | none => rw [q] at h; cases h
  | some n =>
    rw [q] at h
    refine ⟨n, h, fun v hv => ?_⟩
    rw [hl, q]
    exact hv
/-- at once: an item of known nodes -/
theorem se_idx (hK : X.K = c.K) (h1 : SE c X Wx a fv1 (wE T x)) (h2 : SE c X Wx b fv2 (wE T y)) (hs : noSlice b = true) : SE c X Wx (.Subscript a b pos) (fv1 ++ fv2) (wE T (.idx x y)) := by
  obtain ⟨t1, p1, s1⟩ := id h1
  obtain ⟨t2, p2, s2⟩ := id h2
  refine ⟨_, pe_ix ix_seq p1 p2 (noSlice_ix hs), ?_⟩
  refine two (M := fun d1 d2 w K => asI d2 fun j => match d1 with
      | .wel => match atI w j with
        | some d => d.pure = true ∧ K d 2 w
        | none => False
      | _ => asS d1 fun ds => match atI ds j with
        | some d => K d (frp d) w
        | none => False) h1 h2 ?_ p1 p2 s1 s2
  intro Wo nf ρ H v u d1 d2 n1 n2 w K Q r1 r2 o m l
  obtain ⟨j, rfl, mm⟩ := asI_cases m
  clear m
  cases r2
  -- a list or tuple of items
  have go : ∀ (ds : List D), items d1 = some ds → (match atI ds j with
        | some d => K d (frp d) w
        | none => False) → rIx X.K v (.int j) H Q := by
    intro ds hi m
    obtain ⟨p, xs, m', rfl, hs, rm, hm, _⟩ := seq_of (K := X.K) r1 hi
    cases q : atI ds j with
    | none => rw [q] at m; exact m.elim
    | some d =>
      rw [q] at m
      obtain ⟨n, hn, hv⟩ := atI_some rm.length q
      obtain ⟨v, n3, g1, g2, g3⟩ := rm.get hn
      have fin : Q v H := by
        refine l d _ w m v n3 H g2 .refl o (fun a ha => .inr (.inl (hm a (g3 a ha)))) (fun f es e a m en => ?_) (fun f => ?_)
        · rw [frp_nil g2 f] at en; cases en
        · rw [frp_nil g2 (by omega)]; simp
      rcases hs with hs | hs
      · exact .inr (.inl ⟨p, xs, j, v, rfl, rfl, by rw [hK]; exact hs, hv v g1, fin⟩)
      · exact .inl ⟨p, xs, j, v, rfl, rfl, by rw [hK]; exact hs, hv v g1, fin⟩
  cases d1 with
  | wel =>
    cases r1 with
    | @wel p hW =>
      obtain ⟨xs, q1, q2, q3⟩ := o p hW
      simp only at mm
      cases q : atI w j with
      | none => rw [q] at mm; exact mm.elim
      | some d =>
        rw [q] at mm
        obtain ⟨n, hn, hv⟩ := atI_some q2.length q
        obtain ⟨v, n3, g1, g2, g3⟩ := q2.get hn
        have e := g2.pure_nil d mm.1
        subst e
        exact .inl ⟨p, xs, j, v, rfl, rfl, SqL.of q1, hv v g1, l d _ w mm.2 v [] H g2 .refl o (fun a h => by simp at h) (fun _ _ _ a m h => by simp at h) (fun _ => by simp)⟩
  | tup ds => exact go ds rfl mm
  | lst ds => exact go ds rfl mm
  | fz ds => exact go ds rfl mm
  | non => obtain ⟨_, hi, _⟩ := asS_cases mm; cases hi
  | bl b => obtain ⟨_, hi, _⟩ := asS_cases mm; cases hi
  | int b => obtain ⟨_, hi, _⟩ := asS_cases mm; cases hi
  | str b => obtain ⟨_, hi, _⟩ := asS_cases mm; cases hi
  | fn b => obtain ⟨_, hi, _⟩ := asS_cases mm; cases hi
  | dic _ => obtain ⟨_, hi, _⟩ := asS_cases mm; cases hi

/-! ### slices -/
def SO (c : Kx) (X : Cx) (Wx : WX) (e : Option Expr) (P : Slots → Wl → (Option Int → Wl → Prop) → XQ → Prop) : Prop :=
  ∃ t, PO X e t ∧ ∀ Wo nf ρ w σ H (K : Option Int → Wl → Prop) E (Q : Option Int → Hp → Prop), SimE c.toKn Wo nf ρ w σ H →
    (∀ b w', K b w' → ∀ H', Kp (Ws Wo) H H' → WOk c.toKn Wo w' H' → Q b H') → LiftX c Wo nf ρ σ H E Wx → P ρ w K E → t σ H Q
theorem so_no : SO c X Wx none (wO T .no) := ⟨_, po_none, fun Wo nf ρ w σ H K E Q S l lx p => l none w p H .refl S.wok⟩
theorem so_ex (h : SE c X Wx a fv (wE T x)) : SO c X Wx (some a) (wO T (.ex x)) := by
  obtain ⟨t, ht, hs⟩ := h
  refine ⟨_, po_some ht, fun Wo nf ρ w σ H K E Q S l lx p => ?_⟩
  refine hs Wo nf ρ w σ H _ E _ S (fun d f w1 k v n H1 r => ?_) lx p
  obtain ⟨i, rfl, k⟩ := asI_cases k
  have rp := r.rp
  cases rp
  exact ⟨i, rfl, l _ w1 k H1 r.kp r.wok⟩
theorem RpA.cut {Wo : Option Addr} {H : Hp} {xs : List V} {ds : List D} {ns : List Addr} (r : RpA c.toKn Wo H xs ds ns) (lo hi : Option Int) : ∃ n1, RpA c.toKn Wo H (cutV xs lo hi) (cutD ds lo hi) n1 ∧ (∀ a ∈ n1, a ∈ ns) := by
  unfold cutV cutD
  rw [r.length]
  obtain ⟨n1, r1, h1, _⟩ := r.drop (HT.sIx ds.length 0 lo)
  obtain ⟨n2, r2, h2, _⟩ := r1.take (HT.sIx ds.length ds.length hi - HT.sIx ds.length 0 lo)
  exact ⟨n2, r2, fun a ha => h1 a (h2 a ha)⟩
theorem pureAll_of {ds es : List D} (h : ∀ x ∈ es, x ∈ ds) (p : pureAll ds = true) : pureAll es = true := by
  have all : ∀ (l : List D), pureAll l = true ↔ ∀ x ∈ l, x.pure = true := by
    intro l
    induction l with
    | nil => simp [pureAll]
    | cons x l ih => simp [pureAll, ih]
  rw [all] at p ⊢
  exact fun x hx => p x (h x hx)
theorem cutD_mem {ds : List D} {lo hi : Option Int} : ∀ x ∈ cutD ds lo hi, x ∈ ds := fun x hx => List.mem_of_mem_drop (List.mem_of_mem_take hx)
/-- a new list, a new tuple, where lists in them are none -/
theorem Goes.newL' {Wo : Option Addr} {H : Hp} {A : List Addr} {w : Wl} {k : D → Nat → Prop} {Q : VK} (g : Goes c Wo H A w k Q) {ds : List D} {xs : List V} {ns : List Addr} {p : Addr} {fr : Nat} (kd : k (.lst ds) fr) (hf : 2 ≤ fr → pureAll ds = true) (r : RpA c.toKn Wo H xs ds ns) (o : WOk c.toKn Wo w H) (np : H p = none)
    (og : ∀ a ∈ ns, a ∈ A) : Q (.ref p) (upd H p (.lst xs)) := by
  have pn : p ∉ ns := fun z => by
    obtain ⟨⟨xs, q⟩, _⟩ := RpA.there ds r p z
    rw [np] at q; cases q
  refine g _ _ kd _ (p :: ns) _ (.lst upd_same (noWell o np) (upd_rpA r np)) (.new np) (upd_wok o np) (fun a ha => ?_) (fun f es e a m en => ?_) (fun f => ?_)
  · rcases List.mem_cons.mp ha with rfl | ha
    · exact .inl np
    · exact .inr (og a ha)
  · cases en
    exact ⟨np, pn⟩
  · rw [r.pure_nil ds (hf f)]
    exact ⟨by simp, fun a ha => by
      have e : a = p := by simpa using ha
      rw [e]; exact np⟩
theorem Goes.newT' {Wo : Option Addr} {H : Hp} {A : List Addr} {w : Wl} {k : D → Nat → Prop} {Q : VK} (g : Goes c Wo H A w k Q) {ds : List D} {xs : List V} {ns : List Addr} {p : Addr} {fr : Nat} (kd : k (.tup ds) fr) (hf : 2 ≤ fr → pureAll ds = true) (r : RpA c.toKn Wo H xs ds ns) (o : WOk c.toKn Wo w H) (np : H p = none)
    (og : ∀ a ∈ ns, a ∈ A) : Q (.ref p) (upd H p (.tup xs)) := by
  refine g _ _ kd _ ns _ (.tup (SqT.of upd_same) (upd_rpA r np)) (.new np) (upd_wok o np) (fun a ha => .inr (og a ha)) (fun f es e a m en => (by cases e)) (fun f => ?_)
  rw [r.pure_nil ds (hf f)]; simp
theorem Goes.oldT' {Wo : Option Addr} {H : Hp} {A : List Addr} {w : Wl} {k : D → Nat → Prop} {Q : VK} (g : Goes c Wo H A w k Q) {ds : List D} {xs : List V} {ns : List Addr} {p : Addr} {fr : Nat} (kd : k (.tup ds) fr) (hf : 2 ≤ fr → pureAll ds = true) (h : SqT c.K H p xs) (r : RpA c.toKn Wo H xs ds ns) (o : WOk c.toKn Wo w H)
    (og : ∀ a ∈ ns, a ∈ A) : Q (.ref p) H := by
  refine g _ _ kd _ ns _ (.tup h r) .refl o (fun a ha => .inr (og a ha)) (fun f es e a m en => (by cases e)) (fun f => ?_)
  rw [r.pure_nil ds (hf f)]; simp
theorem ite20 {p : Bool} {n : Nat} (h : 2 ≤ (if p = true then 2 else n)) (hn : n < 2) : p = true := by
  by_cases q : p = true
  · exact q
  · rw [if_neg q] at h; omega
theorem cut_whole {α : Type} {xs : List α} {lo hi : Option Int} (h1 : HT.sIx xs.length 0 lo = 0) (h2 : HT.sIx xs.length xs.length hi = xs.length) : (xs.drop (HT.sIx xs.length 0 lo)).take (HT.sIx xs.length xs.length hi - HT.sIx xs.length 0 lo) = xs := by
  rw [h1, h2]; simp
theorem se_slc {lo hi : Option Expr} {l h : Ox} {p2 : Pos} (hK : X.K = c.K) (h1 : SE c X Wx a fv (wE T x)) (hl : SO c X Wx lo (wO T l)) (hh : SO c X Wx hi (wO T h)) : SE c X Wx (.Subscript a (.Slice lo hi none p2) pos) fv (wE T (.slc x l h)) := by
  obtain ⟨t1, p1, s1⟩ := h1
  obtain ⟨t2, q2, s2⟩ := hl
  obtain ⟨t3, q3, s3⟩ := hh
  refine ⟨_, pe_slice ((sl_list (X := X)).or sl_tupA) p1 q2 q3, fun Wo nf ρ w σ H K E Q S l lx p => ?_⟩
  refine s1 Wo nf ρ w σ H _ E _ S (fun d f w1 k v n1 H1 r1 => ?_) lx p
  refine s2 Wo nf ρ w1 σ H1 _ E _ (r1.sim S) (fun lo w2 k2 H2 kp2 o2 => ?_) (lx.step r1.kp) k
  have r1a := r1.later kp2 o2
  refine s3 Wo nf ρ w2 σ H2 _ E _ (r1a.sim S) (fun hi w3 k3 H3 kp3 o3 => ?_) (lx.step (r1.kp.trans kp2)) k2
  have r := r1a.later kp3 o3
  have g : Goes c Wo H3 n1 w3 (fun d fr => K d fr w3) Q := by
    intro d' fr kd z ns H4 rz kz oz og g1 g2
    refine l d' fr w3 kd z ns H4 ⟨rz, r.kp.trans kz, oz, fun a ha => ?_, fun f es e a m en => ⟨r.kp.dom a (g1 f es e a m en).1, (g1 f es e a m en).2⟩, fun f => ⟨(g2 f).1, fun a ha => r.kp.dom a ((g2 f).2 a ha)⟩⟩
    exact (og a ha).elim (fun q => .inl (r.kp.dom a q)) fun q => r.org a q
  have rp := r.rp
  cases d with
  | lst ds =>
    cases rp with
    | @lst p xs _ m1 e1 w1' q1 =>
      obtain ⟨n2, c1, c2⟩ := q1.cut lo hi
      refine .inl ⟨p, xs, rfl, SqL.of e1, fun p' np => ?_⟩
      exact g.newL' (fr := if pureAll ds = true then 2 else 1) k3 (fun f => pureAll_of cutD_mem (ite20 f (by omega))) c1 o3 np fun a ha => List.mem_cons_of_mem _ (c2 a ha)
  | fz ds =>
    cases rp with
    | @lsf p xs _ m1 e1 q1 =>
      obtain ⟨n2, c1, c2⟩ := q1.cut lo hi
      refine .inl ⟨p, xs, rfl, by rw [hK]; exact e1.sq, fun p' np => ?_⟩
      exact g.newL' (fr := if pureAll ds = true then 2 else 1) k3 (fun f => pureAll_of cutD_mem (ite20 f (by omega))) c1 o3 np fun a ha => c2 a ha
  | tup ds =>
    cases rp with
    | @tup p xs _ m1 e1 q1 =>
      obtain ⟨n2, c1, c2⟩ := q1.cut lo hi
      have hl := q1.length
      refine .inr ⟨p, xs, rfl, by rw [hK]; exact e1, fun ⟨z1, z2⟩ => ?_, fun _ p' np => ?_⟩
      · have e : cutD ds lo hi = ds := by
          unfold cutD
          exact cut_whole (by rw [← hl]; exact z1) (by rw [← hl]; exact z2)
        have k3' : K (.tup (cutD ds lo hi)) (if pureAll ds = true then 2 else 0) w3 := k3
        rw [e] at k3'
        exact g.oldT' (fr := if pureAll ds = true then 2 else 0) k3' (fun f => ite20 f (by omega)) e1 q1 o3 fun a ha => ha
      · exact g.newT' (fr := if pureAll ds = true then 2 else 0) k3 (fun f => pureAll_of cutD_mem (ite20 f (by omega))) c1 o3 np fun a ha => c2 a ha
  | _ => exact k3.elim
end
end Ev

set_option Elab.async false
set_option linter.all false
set_option maxRecDepth 100000
set_option maxHeartbeats 4000000
/-! # EvIa: xs[::-1], of lists and tuples -/
namespace Ev
open PySem PySem.Spec PyProof.Rows L2

section
variable {prog : Program} {w : World} {A : Around} {E : Value → Shared → Prop} {s : Shared}
theorem adjust_rev (n : Nat) : Builtin.Slice.sliceAdjust none none (-1) (n : Int) = ((n : Int) - 1, -1) := by
  unfold Builtin.Slice.sliceAdjust
  have h1 : ((-1 : Int) < 0) := by decide
  simp [h1]
theorem places_rev (n : Nat) : Builtin.Slice.slicePlaces ((n : Int) - 1) (-1) (-1) = n := by
  unfold Builtin.Slice.slicePlaces
  have h1 : ¬ ((-1 : Int) > 0) := by decide
  simp only [h1, if_false]
  split <;> simp <;> omega
theorem applied_rev {sl : Addr} {vs : Value} {n : Nat} {Q : Int × Int × Nat → Shared → Prop} (hs : s.heap.IsSliceOf sl .none .none vs) (ps : IsPart vs (some (-1))) (h : Q ((n : Int) - 1, -1, n) s) :
    wpAny (model prog w) A (Builtin.Slice.sliceApplied (.ref sl) (pure (n : Int))) Q E s := by
  obtain ⟨os, hos, hcs, hds⟩ := id hs
  unfold Builtin.Slice.sliceApplied Builtin.Slice.sliceFields
  refine wpAny_bind (wpAny_bind (wpAny_field hos hds (x := .none) rfl (wpAny_bind (wpAny_field hos hds (x := .none) rfl (wpAny_bind (wpAny_field hos hds (x := vs) rfl (wpAny_pure ?_)))))))
  refine wpAny_bind (HT.slicePart_ ps ?_)
  show wpAny _ _ (if ((-1 : Int) == 0) = true then _ else _) _ _ s
  rw [if_neg (by decide)]
  refine wpAny_bind (HT.slicePart_ .none (wpAny_bind (HT.slicePart_ .none (wpAny_bind (wpAny_pure ?_)))))
  show wpAny _ _ (match Builtin.Slice.sliceAdjust none none (-1) (n : Int) with | (lo, hi) => pure (lo, (-1 : Int), Builtin.Slice.slicePlaces lo hi (-1))) _ _ s
  rw [adjust_rev n]
  show wpAny _ _ (pure ((n : Int) - 1, (-1 : Int), Builtin.Slice.slicePlaces ((n : Int) - 1) (-1) (-1))) _ _ s
  rw [places_rev]
  exact wpAny_pure h
theorem fm_congr {f g : Nat → Option Value} : ∀ l : List Nat, (∀ m ∈ l, f m = g m) → l.filterMap f = l.filterMap g
  | [], _ => rfl
  | m :: l, h => by
    rw [List.filterMap_cons, List.filterMap_cons, h m (by simp), fm_congr l fun k hk => h k (by simp [hk])]
theorem pick_rev (xs : Array Value) : ((List.range xs.size).filterMap fun (m : Nat) => xs[((xs.size : Int) - 1 + (m : Int) * (-1)).toNat]?).toArray = xs.toList.reverse.toArray := by
  have e : (List.range xs.size).filterMap (fun (m : Nat) => xs[((xs.size : Int) - 1 + (m : Int) * (-1)).toNat]?) = xs.toList.reverse := by
    have e1 : (List.range xs.size).filterMap (fun (m : Nat) => xs[((xs.size : Int) - 1 + (m : Int) * (-1)).toNat]?) = (List.range xs.size).filterMap (fun m => xs.toList.reverse[m]?) := by
      refine fm_congr _ fun m hm => ?_
      have hm := List.mem_range.mp hm
      have : ((xs.size : Int) - 1 + (m : Int) * (-1)).toNat = xs.size - 1 - m := by omega
      rw [this, List.getElem?_reverse (by simpa using hm)]
      simp
    rw [e1]
    have := PySem.W.krv_all xs.toList.reverse.toArray
    simpa using this
  rw [e]
theorem getItem_tuple_rev {t sl : Addr} {items : Array Value} {vs : Value} {Q : Value → Shared → Prop} (ht : IsTup s.heap t items) (hs : s.heap.IsSliceOf sl .none .none vs) (ps : IsPart vs (some (-1)))
    (h : Q (.ref s.heap.objs.size) { s with heap := s.heap.push { cls := .type "tuple", data := .seq items.toList.reverse.toArray } })
    (hsz : items.size ≤ sizeLine) : wpAny (model prog w) A (getItem (.ref t) (.ref sl)) Q E s := by
  have htake : sizeOk (.seq items.toList.reverse.toArray) := by
    show items.toList.reverse.toArray.size ≤ sizeLine
    simpa using hsz
  obtain ⟨os, hos, hcs, hds⟩ := id hs
  have hTs : s.TypeIs (.ref sl) "slice" := ⟨os, hos, hcs⟩
  unfold getItem
  try with_reducible refine wpAny_holding ?_
  first | refine wpAny_bind (wpAny_pure ?_) | skip
  refine wpAny_bind (wpAny_sequenceKey ht.typeIs (by decide) ?_)
  refine wpAny_bind (wpAny_callSpecial?_slot (name := Str.ofString "__getitem__") ht.typeIs PyProof.Rows.slot_tuple_getitem
    (wpAny_call_entry PyProof.Rows.slot_tuple_getitem ht.typeIs entry_tuple_getitem ?_ (args_tuple_getitem _ _)))
  show wpAny _ _ (Builtin.Tuple.tupleItemsOf (.ref t) >>= _) _ _ s
  refine wpAny_bind (tupleItemsOf_ ht ?_)
  refine wpAny_bind (wpAny_typeOf hTs ?_)
  rw [if_pos (by decide)]
  refine wpAny_bind (applied_rev hs ps ?_)
  have hno : ¬ (((((items.size : Int) - 1)) == 0 && (-1 : Int) == 1 && items.size == items.size) = true) := by
    intro q
    rw [Bool.and_eq_true, Bool.and_eq_true] at q
    exact absurd (eq_of_beq q.1.2) (by decide)
  show wpAny _ _ (if ((((items.size : Int) - 1)) == 0 && (-1 : Int) == 1 && items.size == items.size) = true then _ else _) _ _ s
  rw [if_neg hno, pick_rev]
  first
    | exact wpAny_bind (m := Builtin.Tuple.tupleExact _) (wpAny_newObj_type (wpAny_pure ⟨_, rfl, wpAny_pure h⟩) htake)
    | exact wpAny_bind (m := Builtin.Tuple.tupleExact _) (wpAny_newObj_type (wpAny_bind (wpAny_pure (wpAny_pure ⟨_, rfl, wpAny_pure h⟩))) htake)
    | exact wpAny_bind (wpAny_bind (m := Builtin.Tuple.tupleExact _) (wpAny_newObj_type (wpAny_pure (wpAny_pure ⟨_, rfl, wpAny_pure h⟩)) htake))
    | exact wpAny_bind (wpAny_bind (m := Builtin.Tuple.tupleExact _) (wpAny_newObj_type (wpAny_pure ⟨_, rfl, wpAny_pure h⟩) htake))
end
/-- xs[::-1] -/
def tRevA (K : PySem.W.Frag) (te : TE) : TE := fun σ H Q => te σ H fun x H1 => ∃ a xs, x = .ref a ∧ ((SqL K H1 a xs ∧ ∀ p, H1 p = none → Q (.ref p) (upd H1 p (.lst xs.reverse))) ∨ (SqT K H1 a xs ∧ ∀ p, H1 p = none → Q (.ref p) (upd H1 p (.tup xs.reverse))))
theorem pe_revA {X : Cx} {e : Expr} {te : TE} {k : Nat} {p1 p2 p3 pos : Pos} (he : PE X e te) : PE X (.Subscript e (.Slice none none (some (.UnaryOp .USub (.Constant (.int 1) k p1) p2)) p3) pos) (tRevA X.K te) := by
  refine ⟨fun pins s σ H Q I h => ?_⟩
  refine Subscript_ (thn (he.run pins s σ H _ I h) fun v s1 ⟨x, H1, I1, r1, q1⟩ => ?_)
  obtain ⟨a, xs, ex, q1⟩ := q1
  subst ex
  cases r1
  have hst : PO X (some (.UnaryOp .USub (.Constant (.int 1) k p1) p2)) (tPart (tUn (rU fun i => .int (-i)) (tC (.int 1)))) := po_some (pe_un un_neg pe_int)
  refine wpAny_Slice (thn (po_none.run pins s1 σ H1 (fun o H2 => o = none ∧ H2 = H1) I1 ⟨rfl, rfl⟩) fun vl s2 ⟨l, H2, I2, pl, el, e2⟩ => ?_)
  subst el e2
  refine thn (po_none.run pins s2 σ H2 (fun o H3 => o = none ∧ H3 = H2) I2 ⟨rfl, rfl⟩) fun vu s3 ⟨u, H3, I3, pu, eu, e3⟩ => ?_
  subst eu e3
  refine thn (hst.run pins s3 σ H3 (fun o H4 => o = some (-1) ∧ H4 = H3) I3 ⟨1, rfl, -1, rfl, rfl, rfl⟩) fun vs s4 ⟨o, H4, I4, ps, eo, e4⟩ => ?_
  subst eo e4
  have I5 : Inv X pins σ H4 { s4 with heap := s4.heap.push { cls := .type "slice", data := .fields #[vl, vu, vs] } } := I4.kept (t' := s4.toks) fun b ob q => Heap.get?_push_of_some _ q
  show wpAny (model X.prog X.w) X.A (subscriptTail e (.Slice none none (some (.UnaryOp .USub (.Constant (.int 1) k p1) p2)) p3) (.ref a) (.ref s4.heap.objs.size)) (EP X pins σ Q) X.xe { s4 with heap := s4.heap.push { cls := .type "slice", data := .fields #[vl, vu, vs] } }
  rcases q1 with ⟨hx, q⟩ | ⟨hx, q⟩
  · obtain ⟨its, r, ht, hz⟩ := I5.list hx
    have hlen := r.length
    refine tail_any (ops := [.ref a, .ref s4.heap.objs.size]) ht.isList.typeIs (PySem.slot_list_getitem.lookup) ?_ (by with_unfolding_all rfl)
    refine wpAny_getItem_list_slice ht.isList (Heap.IsSliceOf.new _ vl vu vs) pl pu ps (by decide) ?_ (by rw [List.size_toArray]; omega)
    rw [PySem.W.krv_pick]
    refine ⟨.ref _, _, I5.laid (t' := s4.toks) (o := .lst xs.reverse) (fun b ob q => Heap.get?_push_of_some _ q) (Nat.le_refl _) ?_, rfl, q _ (I5.hok.fresh (Nat.le_refl _))⟩
    exact ⟨by rw [List.length_reverse]; exact hz, _, 0, r.reverse, Heap.get?_push_size _ rfl⟩
  · obtain ⟨its, r, ht, hz⟩ := I5.tuple hx
    have hlen := r.length
    cases pl
    cases pu
    refine tail_any (ops := [.ref a, .ref s4.heap.objs.size]) ht.typeIs (PyProof.Rows.slot_tuple_getitem.lookup) ?_ (by with_unfolding_all rfl)
    refine getItem_tuple_rev ht (Heap.IsSliceOf.new _ .none .none vs) ps ?_ (by rw [List.size_toArray]; omega)
    refine ⟨.ref _, _, I5.laid (t' := s4.toks) (o := .tup xs.reverse) (fun b ob q => Heap.get?_push_of_some _ q) (Nat.le_refl _) ?_, rfl, q _ (I5.hok.fresh (Nat.le_refl _))⟩
    exact ⟨by rw [List.length_reverse]; exact hz, _, r.reverse, IsTup.new _ _⟩
section
variable {c : Kx} {X : Cx} {Wx : WX} {T : Tab} {a : Expr} {fv : List Nat} {pos : Pos} {x : Ex}
theorem RpA.rev {c : Kn} {W : Option Addr} {H : Hp} : ∀ {ds : List D} {vs : List V} {ns : List Addr}, RpA c W H vs ds ns → ∃ n2, RpA c W H vs.reverse ds.reverse n2 ∧ ∀ a ∈ n2, a ∈ ns
  | [], _, _, h => by cases h; exact ⟨[], .nil, fun a h => h⟩
  | d :: ds, _, _, h => by
    cases h with
    | @cons v vs _ _ n1 n2 r1 r2 =>
      obtain ⟨m, q, hm⟩ := RpA.rev r2
      refine ⟨m ++ n1, ?_, fun b hb => ?_⟩
      · rw [List.reverse_cons, List.reverse_cons]
        exact q.append (RpA.one r1)
      · rcases List.mem_append.mp hb with z | z
        · exact List.mem_append.mpr (.inr (hm b z))
        · exact List.mem_append.mpr (.inl z)
theorem se_rev {k : Nat} {p1 p2 p3 : Pos} (hK : X.K = c.K) (h1 : SE c X Wx a fv (wE T x)) : SE c X Wx (.Subscript a (.Slice none none (some (.UnaryOp .USub (.Constant (.int 1) k p1) p2)) p3) pos) fv (wE T (.rev x)) := by
  obtain ⟨t1, q1, s1⟩ := h1
  refine ⟨_, pe_revA q1, fun Wo nf ρ w σ H K E Q S l lx p => ?_⟩
  refine s1 Wo nf ρ w σ H _ E _ S (fun d f w1 k v n1 H1 r => ?_) lx p
  have g : Goes c Wo H1 n1 w1 (fun d fr => K d fr w1) Q := by
    intro d' fr kd z ns H4 rz kz oz og g1 g2
    refine l d' fr w1 kd z ns H4 ⟨rz, r.kp.trans kz, oz, fun a ha => ?_, fun f es e a m en => ⟨r.kp.dom a (g1 f es e a m en).1, (g1 f es e a m en).2⟩, fun f => ⟨(g2 f).1, fun a ha => r.kp.dom a ((g2 f).2 a ha)⟩⟩
    exact (og a ha).elim (fun q => .inl (r.kp.dom a q)) fun q => r.org a q
  have rp := r.rp
  have mem : ∀ {ds : List D} (x : D), x ∈ ds.reverse → x ∈ ds := fun x h => List.mem_reverse.mp h
  cases d with
  | lst ds =>
    cases rp with
    | @lst p xs _ m1 e1 w1' q1 =>
      obtain ⟨n2, c1, c2⟩ := q1.rev
      exact ⟨p, xs, rfl, .inl ⟨SqL.of e1, fun p' np => g.newL' (fr := if pureAll ds = true then 2 else 1) k (fun f => pureAll_of mem (ite20 f (by omega))) c1 r.wok np fun a ha => List.mem_cons_of_mem _ (c2 a ha)⟩⟩
  | tup ds =>
    cases rp with
    | @tup p xs _ m1 e1 q1 =>
      obtain ⟨n2, c1, c2⟩ := q1.rev
      exact ⟨p, xs, rfl, .inr ⟨by rw [hK]; exact e1, fun p' np => g.newT' (fr := if pureAll ds = true then 2 else 0) k (fun f => pureAll_of mem (ite20 f (by omega))) c1 r.wok np fun a ha => c2 a ha⟩⟩
  | _ => exact k.elim
end
end Ev

set_option Elab.async false
set_option linter.all false
set_option maxRecDepth 100000
set_option maxHeartbeats 4000000
/-! # EvJ: built-ins by name, the text of a tree, calls of defs -/
namespace Ev
open PySem PySem.Spec PyProof.Rows L2

/-! ### the text of a tree: its length -/
theorem textFrom_le : ∀ (ts : List Str) (k : Nat) (acc : Str), (textFrom k acc ts).length ≤ acc.length + piled ts
  | [], k, acc => by simp [textFrom]
  | t :: r, k, acc => by
    have h := textFrom_le r (k + 1) (acc ++ (if k > 0 then ", " else "" : String) ++ t)
    have e : (acc ++ (if k > 0 then ", " else "" : String) ++ t).length = acc.length + (if k > 0 then 2 else 0) + t.length := by
      rw [strLen_append, strLen_append]
      split <;> rfl
    show (textFrom (k + 1) _ r).length ≤ _
    rw [piled_cons]
    rw [e] at h
    have : (if k > 0 then 2 else 0 : Nat) ≤ 2 := by split <;> omega
    omega
theorem listText_le (ts : List Str) : (listText ts).length ≤ piled ts + 2 := by
  unfold listText
  rw [strLen_append]
  have h := textFrom_le ts 0 ("[" : String)
  have e1 : ((("[" : String) : Str)).length = 1 := rfl
  have e2 : ((("]" : String) : Str)).length = 1 := rfl
  rw [e2]
  omega
theorem tupleText_le (ts : List Str) : (tupleText ts).length ≤ piled ts + 3 := by
  unfold tupleText
  rw [strLen_append, strLen_append]
  have e1 : ((("(" : String) : Str)).length = 1 := rfl
  have e3 : (((if ts.length == 1 then ",)" else ")" : String) : Str)).length ≤ 2 := by split <;> decide
  rw [e1]
  by_cases h : ts = []
  · subst h
    have : (Str.join ", " []).length = 0 := rfl
    rw [this]; omega
  · have := join_length_add ts h
    omega
mutual
theorem D.shown_le : ∀ d : D, d.rdt = true → d.sgn ≤ 16000000 → d.py.shown.length ≤ d.sgn ∧ d.py.showable = true
  | .non, _, _ => ⟨by decide, rfl⟩
  | .bl b, _, _ => ⟨by cases b <;> decide, rfl⟩
  | .int i, _, h => by
    simp only [D.sgn] at h ⊢
    by_cases q : i.natAbs.log2 < 1900
    · rw [if_pos q] at h ⊢
      refine ⟨?_, by simp [D.py, PyData.showable]; omega⟩
      have := int_text_length_le (a := i) (k := i.natAbs.log2 + 1) (by omega) (by omega)
      show (Str.ofString (toString i)).length ≤ _
      rw [PySem.ofString_length]
      omega
    · rw [if_neg q] at h; omega
  | .str s, hd, h => by
    refine ⟨?_, rfl⟩
    simp only [D.sgn]
    have := StrLaws.reprText_len s fun ch hc => by
      have hs : PyData.strOk s = true := by simpa [D.rdt] using hd
      have hs' : s.cps.all (· < 0x110000) = true := hs
      have := Array.all_eq_true'.mp hs' ch (by simpa using hc)
      have h2 : ch < 0x110000 := by simpa using this
      exact Nat.lt_trans h2 (by decide)
    show (reprText s).length ≤ _
    omega
  | .tup ds, hd, h => by
    simp only [D.sgn] at h ⊢
    have ih := shownAll_le ds (by simpa [D.rdt] using hd) (by omega)
    refine ⟨?_, by simpa [D.py, PyData.showable] using ih.2⟩
    show (tupleText (PyData.shownAll (pyAll ds))).length ≤ _
    have := tupleText_le (PyData.shownAll (pyAll ds))
    omega
  | .lst ds, hd, h => by
    simp only [D.sgn] at h ⊢
    have ih := shownAll_le ds (by simpa [D.rdt] using hd) (by omega)
    refine ⟨?_, by simpa [D.py, PyData.showable] using ih.2⟩
    show (listText (PyData.shownAll (pyAll ds))).length ≤ _
    have := listText_le (PyData.shownAll (pyAll ds))
    omega
  | .fz ds, hd, h => by
    simp only [D.sgn] at h ⊢
    have ih := shownAll_le ds (by simpa [D.rdt] using hd) (by omega)
    refine ⟨?_, by simpa [D.py, PyData.showable] using ih.2⟩
    show (listText (PyData.shownAll (pyAll ds))).length ≤ _
    have := listText_le (PyData.shownAll (pyAll ds))
    omega
  | .fn _, hd, _ => by simp [D.rdt] at hd
  | .wel, hd, _ => by simp [D.rdt] at hd
  | .dic kvs, h, _ => by
    cases kvs with
    | nil => exact ⟨by decide +kernel, rfl⟩
    | cons p l => simp [D.rdt] at h
theorem shownAll_le : ∀ ds : List D, rdtAll ds = true → sgnAll ds ≤ 16000000 → piled (PyData.shownAll (pyAll ds)) ≤ sgnAll ds ∧ PyData.showableAll (pyAll ds) = true
  | [], _, _ => ⟨by simp [pyAll, PyData.shownAll, piled_nil, sgnAll], rfl⟩
  | d :: ds, hd, h => by
    simp only [rdtAll, Bool.and_eq_true] at hd
    simp only [sgnAll] at h ⊢
    have h1 := D.shown_le d hd.1 (by omega)
    have h2 := shownAll_le ds hd.2 (by omega)
    simp only [pyAll, PyData.shownAll, piled_cons, PyData.showableAll, Bool.and_eq_true]
    exact ⟨by omega, h1.2, h2.2⟩
end

section
variable {c : Kx} {X : Cx} {Wx : WX} {T : Tab} {e a b d' : Expr} {es : List Expr} {fv fv1 fv2 fv3 : List Nat} {pos : Pos} {x y z : Ex}

/-! ### repr -/
section
variable {pins : List (Addr × Obj)} {σ : L2.St} {H : Hp} {s : Shared} {Wo : Option Addr}
theorem emp_at (I : Inv X pins σ H s) {a : Addr} (e : H a = some (.dK [])) : ∃ o es n, s.heap.get? a = some o ∧ o.cls = .type "dict" ∧ o.data = .dict es n ∧ es.toList = [] ∧ (a == sysModules) = false := by
  obtain ⟨_, hd, vs, kv, o, es, ep, h1, h2, h3, _, h5, _⟩ := dk_of I.hok e
  cases kv
  have := h5.length
  exact ⟨o, es, ep, h1, h2.1, h3, List.eq_nil_of_length_eq_zero this, hd⟩
mutual
/-- a tree, read in the heap -/
theorem Rp.reads (hK : X.K = c.K) (I : Inv X pins σ H s) : ∀ (d : D) {v : V} {ns : List Addr} {u : Value}, Rp c.toKn Wo H v d ns → d.rdt = true → RelV v u → ∃ as, Reads s.heap u d.py as
  | .non, _, _, _, h, _, r => by cases h; cases r; exact ⟨_, .none⟩
  | .bl b, _, _, _, h, _, r => by cases h; cases r; exact ⟨_, .bool b⟩
  | .int i, _, _, _, h, _, r => by
    cases h
    obtain ⟨t, rfl⟩ := r
    exact ⟨_, .int i t⟩
  | .str x, _, _, _, h, _, r => by
    cases h
    obtain ⟨t, rfl⟩ := r
    exact ⟨_, .str x t⟩
  | .fn _, _, _, _, _, q, _ => by simp [D.rdt] at q
  | .wel, _, _, _, _, q, _ => by simp [D.rdt] at q
  | .dic kvs, _, _, _, h, q, r => by
    cases kvs with
    | cons p l => simp [D.rdt] at q
    | nil =>
    cases h with
    | dic e =>
      cases r
      obtain ⟨o, es, n, h1, h2, h3, h4, _⟩ := emp_at I e
      exact ⟨_, .dict h1 h2 h3 (by rw [h4]; exact .nil) (by rw [h4]; exact .nil)⟩
  | .tup ds, _, _, _, h, q, r => by
    cases h with
    | tup st ra =>
      cases r
      obtain ⟨its, rv, ⟨o, ho, hc, n, hd⟩, _⟩ := I.tuple (by rw [hK]; exact st)
      obtain ⟨as, hr⟩ := RpA.reads hK I ds ra (by simpa [D.rdt] using q) rv
      exact ⟨_, .tuple ho hc hd hr⟩
  | .lst ds, _, _, _, h, q, r => by
    cases h with
    | lst st w ra =>
      cases r
      obtain ⟨its, rv, ⟨o, n, ho, hc, _, hd⟩, _⟩ := I.list (SqL.of st)
      obtain ⟨as, hr⟩ := RpA.reads hK I ds ra (by simpa [D.rdt] using q) rv
      exact ⟨_, .list ho hc hd hr⟩
  | .fz ds, _, _, _, h, q, r => by
    cases h with
    | lsf st ra =>
      cases r
      obtain ⟨its, rv, ⟨o, n, ho, hc, _, hd⟩, _⟩ := I.list (by rw [hK]; exact st.sq)
      obtain ⟨as, hr⟩ := RpA.reads hK I ds ra (by simpa [D.rdt] using q) rv
      exact ⟨_, .list ho hc hd hr⟩
theorem RpA.reads (hK : X.K = c.K) (I : Inv X pins σ H s) : ∀ (ds : List D) {vs : List V} {ns : List Addr} {us : List Value}, RpA c.toKn Wo H vs ds ns → rdtAll ds = true → Vals vs us → ∃ as, ReadsAll s.heap us (pyAll ds) as
  | [], _, _, _, h, _, r => by cases h; cases r; exact ⟨_, .nil⟩
  | d :: ds, _, _, _, h, q, r => by
    simp only [rdtAll, Bool.and_eq_true] at q
    cases h with
    | cons h1 h2 =>
      cases r with
      | cons r1 r2 =>
        obtain ⟨as, e1⟩ := Rp.reads hK I d h1 q.1 r1
        obtain ⟨bs, e2⟩ := RpA.reads hK I ds h2 q.2 r2
        exact ⟨_, .cons e1 e2⟩
end
theorem line16 {n : Nat} (h : n ≤ 16000000) : n ≤ sizeLine := by rw [sizeLine_eq]; omega
mutual
/-- how a part of a text comes to be -/
theorem Rp.rk (hK : X.K = c.K) (I : Inv X pins σ H s) : ∀ (d : D) {v : V} {ns : List Addr} {u : Value}, Rp c.toKn Wo H v d ns → d.rdt = true → d.sgn ≤ 16000000 → RelV v u →
    ∃ bs, ReadAtMost s.heap d.py.depth bs ∧ ReprK X.prog X.w bs s.heap d.py.depth u d.py.shown
  | .non, _, _, _, h, _, _, r => by cases h; cases r; exact ⟨[], (fun _ h => nomatch h), by simp only [D.py, PyData.shown]; exact .of_is ReprIs.none _ _ _⟩
  | .bl b, _, _, _, h, _, _, r => by cases h; cases r; exact ⟨[], (fun _ h => nomatch h), by simp only [D.py, PyData.shown]; exact .of_is (ReprIs.bool b) _ _ _⟩
  | .int i, _, _, _, h, q, z, r => by
    cases h
    obtain ⟨t, rfl⟩ := r
    have := (D.shown_le (.int i) q z).2
    exact ⟨[], (fun _ h => nomatch h), by simp only [D.py, PyData.shown]; exact .of_is (ReprIs.int t (by simpa [D.py, PyData.showable] using this)) _ _ _⟩
  | .str x, _, _, _, h, q, z, r => by
    cases h
    obtain ⟨t, rfl⟩ := r
    have := line16 (Nat.le_trans (D.shown_le (.str x) q z).1 z)
    exact ⟨[], (fun _ h => nomatch h), by simp only [D.py, PyData.shown]; exact .of_is (ReprIs.str x t (by simpa only [D.py, PyData.shown] using this)) _ _ _⟩
  | .fn _, _, _, _, _, q, _, _ => by simp [D.rdt] at q
  | .wel, _, _, _, _, q, _, _ => by simp [D.rdt] at q
  | .dic kvs, _, _, _, h, q, z, r => by
    cases kvs with
    | cons p l => simp [D.rdt] at q
    | nil =>
    have rd := Rp.reads hK I (.dic []) h q r
    cases h with
    | dic e =>
      cases r
      obtain ⟨o, es, n, h1, h2, h3, h4, h5⟩ := emp_at I e
      obtain ⟨as, rd⟩ := rd
      have nn : ReadAtMost s.heap 0 [] := fun _ h => nomatch h
      refine ⟨[_], ReadAtMost.cons rd (Nat.zero_le _) nn, ?_⟩
      exact ReprK.dict (ps := []) h1 h2 h3 h5 (fun h => nomatch h) (by rw [h4]; exact .nil)
  | .tup ds, _, _, _, h, q, z, r => by
    have rd := Rp.reads hK I (.tup ds) h q r
    cases h with
    | tup st ra =>
      cases r
      obtain ⟨its, rv, ⟨o, ho, hc, n, hd⟩, _⟩ := I.tuple (by rw [hK]; exact st)
      obtain ⟨as, rd⟩ := rd
      obtain ⟨bs, hb, hk⟩ := RpA.rk hK I ds ra (by simpa [D.rdt] using q) (by simp only [D.sgn] at z; omega) rv
      have hna := not_mem_of_deeper rd (by simp only [D.py, PyData.depth]; omega) hb
      refine ⟨_ :: bs, ReadAtMost.cons rd (by simp only [D.py, PyData.depth]; omega) hb, ?_⟩
      simp only [D.py, PyData.depth, PyData.shown]
      exact ReprK.tuple ho hc hd hna hk
  | .lst ds, _, _, _, h, q, z, r => by
    have rd := Rp.reads hK I (.lst ds) h q r
    cases h with
    | lst st w ra =>
      cases r
      obtain ⟨its, rv, ⟨o, n, ho, hc, _, hd⟩, _⟩ := I.list (SqL.of st)
      obtain ⟨as, rd⟩ := rd
      obtain ⟨bs, hb, hk⟩ := RpA.rk hK I ds ra (by simpa [D.rdt] using q) (by simp only [D.sgn] at z; omega) rv
      have hna := not_mem_of_deeper rd (by simp only [D.py, PyData.depth]; omega) hb
      refine ⟨_ :: bs, ReadAtMost.cons rd (by simp only [D.py, PyData.depth]; omega) hb, ?_⟩
      simp only [D.py, PyData.depth, PyData.shown]
      cases its with
      | nil =>
        cases ds with
        | nil =>
          simp only [pyAll, PyData.shownAll, listText_nil]
          exact ReprK.listEmpty ho hc hd
        | cons d ds => cases ra; cases rv
      | cons y its => exact ReprK.list ho hc hd hna (by simpa using hk.length_eq) (fun i y e => hk.item i y (by simpa using e))
  | .fz ds, _, _, _, h, q, z, r => by
    have rd := Rp.reads hK I (.fz ds) h q r
    cases h with
    | lsf st ra =>
      cases r
      obtain ⟨its, rv, ⟨o, n, ho, hc, _, hd⟩, _⟩ := I.list (by rw [hK]; exact st.sq)
      obtain ⟨as, rd⟩ := rd
      obtain ⟨bs, hb, hk⟩ := RpA.rk hK I ds ra (by simpa [D.rdt] using q) (by simp only [D.sgn] at z; omega) rv
      have hna := not_mem_of_deeper rd (by simp only [D.py, PyData.depth]; omega) hb
      refine ⟨_ :: bs, ReadAtMost.cons rd (by simp only [D.py, PyData.depth]; omega) hb, ?_⟩
      simp only [D.py, PyData.depth, PyData.shown]
      cases its with
      | nil =>
        cases ds with
        | nil =>
          simp only [pyAll, PyData.shownAll, listText_nil]
          exact ReprK.listEmpty ho hc hd
        | cons d ds => cases ra; cases rv
      | cons y its => exact ReprK.list ho hc hd hna (by simpa using hk.length_eq) (fun i y e => hk.item i y (by simpa using e))
theorem RpA.rk (hK : X.K = c.K) (I : Inv X pins σ H s) : ∀ (ds : List D) {vs : List V} {ns : List Addr} {us : List Value}, RpA c.toKn Wo H vs ds ns → rdtAll ds = true → sgnAll ds ≤ 16000000 → Vals vs us →
    ∃ bs, ReadAtMost s.heap (PyData.depthAll (pyAll ds)) bs ∧ ReprAllK X.prog X.w bs s.heap (PyData.depthAll (pyAll ds)) us (PyData.shownAll (pyAll ds))
  | [], _, _, _, h, _, _, r => by cases h; cases r; exact ⟨[], (fun _ h => nomatch h), .nil⟩
  | d :: ds, _, _, _, h, q, z, r => by
    simp only [rdtAll, Bool.and_eq_true] at q
    simp only [sgnAll] at z
    cases h with
    | cons h1 h2 =>
      cases r with
      | cons r1 r2 =>
        obtain ⟨b1, hb1, k1⟩ := Rp.rk hK I d h1 q.1 (by omega) r1
        obtain ⟨b2, hb2, k2⟩ := RpA.rk hK I ds h2 q.2 (by omega) r2
        refine ⟨b1 ++ b2, (hb1.mono ?_).append (hb2.mono ?_), .cons ((k1.more fun b hb => List.mem_append_left _ hb).level_le ?_) (k2.more_le (fun b hb => List.mem_append_right _ hb) ?_)⟩ <;> (simp only [pyAll, PyData.depthAll]; omega)
end
end
def rRepr (c : Kx) : List V → Hp → VK → Prop := fun xs H Q => ∃ x d Wo ns, xs = [x] ∧ Rp c.toKn Wo H x d ns ∧ d.rpOk ∧ Q (.str d.py.shown) H
theorem call_reprD {k : Nat} (hK : X.K = c.K) (hr : Room k X.A) (hg : X.A.guards = some []) : CallR X (.builtin "repr") (rRepr c) := by
  intro pins s σ H xs us Q I r h
  obtain ⟨x, d, Wo, ns, rfl, rp, ⟨h1, h2, h3⟩, q⟩ := h
  obtain ⟨u, rfl, ru⟩ := vals1 r
  have un := hr.un
  have dd := D.dpt d
  obtain ⟨s0, s2⟩ := D.shown_le d h1 h3
  have hz := line16 (Nat.le_trans s0 h3)
  have rd := Rp.reads hK I d rp h1 ru
  cases d with
  | non => cases rp; cases ru; exact PySem.P.repr_of_none ⟨.str _, H, I.tok _, ⟨_, rfl⟩, q⟩
  | bl b => cases rp; cases ru; exact PySem.P.repr_of_bool ⟨.str _, H, I.tok _, ⟨_, rfl⟩, q⟩
  | int i =>
    cases rp
    obtain ⟨t, rfl⟩ := ru
    exact PySem.P.repr_of_int (by simpa [D.py, PyData.showable] using s2) ⟨.str _, H, I.tok _, ⟨_, rfl⟩, q⟩
  | str x =>
    cases rp
    obtain ⟨t, rfl⟩ := ru
    exact PySem.P.repr_of_str ⟨.str _, H, I.tok _, ⟨_, rfl⟩, q⟩ hz
  | fn g => simp [D.rdt] at h1
  | wel => simp [D.rdt] at h1
  | dic kvs =>
    cases kvs with
    | cons p l => simp [D.rdt] at h1
    | nil =>
    cases rp with
    | dic e =>
      cases ru
      obtain ⟨o, es, n, e1, e2, e3, e4, e5⟩ := emp_at I e
      exact call_repr_slot (by omega) ⟨o, e1, e2⟩ F.slot_dict_repr (call_dict_reprK (as := []) (ps := []) (d := 0) (h₀ := s.heap) e1 e2 e3 e5 (fun h => nomatch h) (by rw [e4]; exact .nil) hg (fun b _ => Clear.nil b) (by show X.A.units + 1 + (0 + 1) < cLine; omega) (fun _ _ z => z)
        (fun h' u tk kk => ⟨_, _, rfl, .str _, H, I.kept kk, ⟨_, rfl⟩, q⟩) hz)
  | tup ds =>
    cases rp with
    | tup st ra =>
      cases ru
      obtain ⟨its, rv, ⟨o, ho, hc, n, hd⟩, _⟩ := I.tuple (by rw [hK]; exact st)
      obtain ⟨as, rd⟩ := rd
      obtain ⟨bs, hb, hk⟩ := RpA.rk hK I ds ra (by simpa [D.rdt] using h1) (by simp only [D.sgn] at h3; omega) rv
      have hna := not_mem_of_deeper rd (by simp only [D.py, PyData.depth]; omega) hb
      simp only [D.py, PyData.depth] at dd
      exact call_repr_slot (by omega) ⟨o, ho, hc⟩ F.slot_tuple_repr (call_tuple_reprK (h₀ := s.heap) ho hc hd hna hk hg (fun b _ => Clear.nil b) (by show X.A.units + 1 + (_ + 1) < cLine; omega) (fun _ _ z => z)
        (fun h' u tk kk => ⟨_, _, rfl, .str _, H, I.kept kk, ⟨_, rfl⟩, q⟩) hz)
  | lst ds =>
    cases rp with
    | lst st w ra =>
      cases ru
      obtain ⟨its, rv, ⟨o, n, ho, hc, _, hd⟩, _⟩ := I.list (SqL.of st)
      obtain ⟨as, rd⟩ := rd
      obtain ⟨bs, hb, hk⟩ := RpA.rk hK I ds ra (by simpa [D.rdt] using h1) (by simp only [D.sgn] at h3; omega) rv
      have hna := not_mem_of_deeper rd (by simp only [D.py, PyData.depth]; omega) hb
      simp only [D.py, PyData.depth] at dd
      cases its with
      | nil =>
        cases ds with
        | nil => exact call_repr_slot (by omega) ⟨o, ho, hc⟩ F.slot_list_repr.toG (call_list_repr_empty ⟨o, ho, hc⟩ ho hd ⟨_, _, rfl, .str _, H, I.tok _, ⟨_, rfl⟩, q⟩)
        | cons d ds => cases ra; cases rv
      | cons y its =>
        exact call_repr_slot (by omega) ⟨o, ho, hc⟩ F.slot_list_repr.toG (call_list_reprK (h₀ := s.heap) ho hc hd hna (by simpa using hk.length_eq) (fun i y e => hk.item i y (by simpa using e)) hg (fun b _ => Clear.nil b) (by show X.A.units + 1 + (_ + 1) < cLine; omega) (fun _ _ z => z)
          (fun h' u tk kk => ⟨_, _, rfl, .str _, H, I.kept kk, ⟨_, rfl⟩, q⟩) hz)
  | fz ds =>
    cases rp with
    | lsf st ra =>
      cases ru
      obtain ⟨its, rv, ⟨o, n, ho, hc, _, hd⟩, _⟩ := I.list (by rw [hK]; exact st.sq)
      obtain ⟨as, rd⟩ := rd
      obtain ⟨bs, hb, hk⟩ := RpA.rk hK I ds ra (by simpa [D.rdt] using h1) (by simp only [D.sgn] at h3; omega) rv
      have hna := not_mem_of_deeper rd (by simp only [D.py, PyData.depth]; omega) hb
      simp only [D.py, PyData.depth] at dd
      cases its with
      | nil =>
        cases ds with
        | nil => exact call_repr_slot (by omega) ⟨o, ho, hc⟩ F.slot_list_repr.toG (call_list_repr_empty ⟨o, ho, hc⟩ ho hd ⟨_, _, rfl, .str _, H, I.tok _, ⟨_, rfl⟩, q⟩)
        | cons d ds => cases ra; cases rv
      | cons y its =>
        exact call_repr_slot (by omega) ⟨o, ho, hc⟩ F.slot_list_repr.toG (call_list_reprK (h₀ := s.heap) ho hc hd hna (by simpa using hk.length_eq) (fun i y e => hk.item i y (by simpa using e)) hg (fun b _ => Clear.nil b) (by show X.A.units + 1 + (_ + 1) < cLine; omega) (fun _ _ z => z)
          (fun h' u tk kk => ⟨_, _, rfl, .str _, H, I.kept kk, ⟨_, rfl⟩, q⟩) hz)

/-! ### sorted, of pairs of any ints: the same pairs in some order -/
def rSortP (K : PySem.W.Frag) : List V → Hp → VK → Prop := fun vs H Q => ∃ a xs, vs = [V.ref a] ∧ SqL K H a xs ∧ (∀ x ∈ xs, ∃ t i j, x = V.ref t ∧ SqT K H t [V.int i, V.int j]) ∧
  ∀ ys p, ys.Perm xs → H p = none → Q (.ref p) (upd H p (.lst ys))
theorem cr_sortP : CallR X (.builtin "sorted") (rSortP X.K) := by
  intro pins s σ H vs us Q I r h
  obtain ⟨a, xs, rfl, hs, hx, q⟩ := h
  obtain ⟨its, rv, hl, hz⟩ := I.list hs
  obtain ⟨u, rfl, ru⟩ := vals1 r
  obtain rfl : u = Value.ref a := ru
  obtain ⟨e1, e2⟩ := refs_back rv fun x m => by
    obtain ⟨t, _, _, e, _⟩ := hx x m
    exact ⟨t, e⟩
  refine Srt.sorted_pairs hl.isList (by rw [← rv.length]; exact hz) (fun v hv => ?_) fun h' d out hp k hd hn => ?_
  · obtain ⟨t, rfl⟩ := e2 v hv
    have hm : V.ref t ∈ xs := by rw [e1]; exact List.mem_map.mpr ⟨_, hv, rfl⟩
    obtain ⟨t', i, j, e, ht⟩ := hx _ hm
    cases e
    obtain ⟨its2, r2, ⟨o, ho, hc, n, hd⟩, _⟩ := I.tuple ht
    obtain ⟨u1, u2, rfl, ri, rj⟩ := vals2 r2
    obtain ⟨t1, rfl⟩ := ri
    obtain ⟨t2, rfl⟩ := rj
    exact ⟨i, j, t, o, t1, t2, n, rfl, ho, hc, hd⟩
  · have h3 : ∀ u ∈ out, ∃ a, u = Value.ref a := fun u hu => e2 u (hp.mem_iff.mp hu)
    obtain ⟨n, hn⟩ := hn
    refine ⟨.ref d, upd H d (.lst (out.map backV)), I.laid (t' := s.toks) k hd ⟨?_, out, n, vals_back h3, hn⟩, rfl, q _ d ?_ (I.hok.fresh hd)⟩
    · rw [List.length_map, hp.length_eq, ← rv.length]; exact hz
    · rw [e1]; exact hp.map backV

/-! ### a built-in, by values -/
def DoesP (c : Kx) (X : Cx) (f : Value) (M : List D → (D → Nat → Prop) → Prop) : Prop :=
  ∃ r : List V → Hp → VK → Prop, CallR X f r ∧ ∀ (Wo : Option Addr) (H : Hp) (vs : List V) (ds : List D) (ns : List Addr) (w : Wl) (k : D → Nat → Prop) (Q : VK), RpA c.toKn Wo H vs ds ns → WOk c.toKn Wo w H → M ds k → Goes c Wo H ns w k Q → r vs H Q
theorem pure_pairs (ps : List (Int × Int)) : pureAll (ps.map pairD) = true := by
  induction ps with
  | nil => rfl
  | cons p ps ih => simpa [pureAll, pairD, D.pure] using ih
theorem pair_tup {Wo : Option Addr} {H : Hp} {q : Int × Int} {v : V} {n : List Addr} (r : Rp c.toKn Wo H v (pairD q) n) : ∃ t, v = .ref t ∧ SqT c.K H t ([q.1, q.2].map V.int) := by
  unfold pairD at r
  cases r with
  | @tup a xs _ m st rr =>
    have := ints_vals rr (ks := [q.1, q.2]) rfl
    subst this
    exact ⟨a, rfl, st⟩
theorem pairs_mem {Wo : Option Addr} {H : Hp} : ∀ (ps : List (Int × Int)) {us : List V} {n : List Addr} {x : V}, RpA c.toKn Wo H us (ps.map pairD) n → x ∈ us → ∃ q ∈ ps, ∃ t, x = .ref t ∧ SqT c.K H t ([q.1, q.2].map V.int)
  | [], us, n, x, r, h => by cases r; simp at h
  | q :: ps, us, n, x, r, h => by
    cases r with
    | cons r1 r2 =>
      rcases List.mem_cons.mp h with rfl | h
      · obtain ⟨t, e, st⟩ := pair_tup r1
        exact ⟨q, by simp, t, e, st⟩
      · obtain ⟨z, hz, g⟩ := pairs_mem ps r2 h
        exact ⟨z, by simp [hz], g⟩
theorem rpa_perm {Wo : Option Addr} {H : Hp} {ys us : List V} (h : ys.Perm us) : ∀ {ds : List D} {n : List Addr}, pureAll ds = true → RpA c.toKn Wo H us ds n → ∃ es, es.Perm ds ∧ RpA c.toKn Wo H ys es [] := by
  induction h with
  | nil => intro ds n _ r; cases r; exact ⟨[], .refl _, .nil⟩
  | @cons x l1 l2 hp ih =>
    intro ds n pu r
    cases r with
    | @cons _ _ d ds' n1 n2 r1 r2 =>
      simp only [pureAll, Bool.and_eq_true] at pu
      have e1 := r1.pure_nil d pu.1
      have e2 := r2.pure_nil ds' pu.2
      subst e1 e2
      obtain ⟨es, p, q⟩ := ih pu.2 r2
      exact ⟨d :: es, p.cons d, .cons r1 q⟩
  | @swap x y l =>
    intro ds n pu r
    cases r with
    | @cons _ _ d ds' n1 n2 r1 r2 =>
      cases r2 with
      | @cons _ _ d2 ds2 n3 n4 r3 r4 =>
        simp only [pureAll, Bool.and_eq_true] at pu
        have e1 := r1.pure_nil d pu.1
        have e2 := r3.pure_nil d2 pu.2.1
        have e3 := r4.pure_nil ds2 pu.2.2
        subst e1 e2 e3
        exact ⟨d2 :: d :: ds2, .swap _ _ _, .cons r3 (.cons r1 r4)⟩
  | @trans l1 l2 l3 h1 h2 ih1 ih2 =>
    intro ds n pu r
    obtain ⟨es, p, q⟩ := ih2 pu r
    have pu2 : pureAll es = true := by
      rw [pureAll_all] at pu ⊢
      exact fun d hd => pu d (p.mem_iff.mp hd)
    obtain ⟨es', p', q'⟩ := ih1 pu2 q
    exact ⟨es', p'.trans p, q'⟩
theorem pairs_perm {Wo : Option Addr} {H : Hp} {ys us : List V} (h : ys.Perm us) (ps : List (Int × Int)) (r : RpA c.toKn Wo H us (ps.map pairD) []) : ∃ qs : List (Int × Int), qs.Perm ps ∧ RpA c.toKn Wo H ys (qs.map pairD) [] := by
  obtain ⟨es, p, q⟩ := rpa_perm h (pure_pairs ps) r
  obtain ⟨qs, rfl⟩ : ∃ qs : List (Int × Int), es = qs.map pairD := by
    have : ∀ d ∈ es, ∃ z, pairD z = d := fun d hd => by
      obtain ⟨z, _, e⟩ := List.mem_map.mp (p.mem_iff.mp hd)
      exact ⟨z, e⟩
    clear p
    clear q
    induction es with
    | nil => exact ⟨[], rfl⟩
    | cons d es ih =>
      obtain ⟨z, hz⟩ := this d (by simp)
      obtain ⟨qs, rfl⟩ := ih fun d hd => this d (by simp [hd])
      exact ⟨z :: qs, by simp [hz]⟩
  refine ⟨qs, ?_, q⟩
  have := p.map unpair
  have e : ∀ l : List (Int × Int), (l.map pairD).map unpair = l := fun l => by
    rw [List.map_map]
    conv => rhs; rw [← List.map_id l]
    exact List.map_congr_left fun z _ => rfl
  rwa [e, e] at this
theorem pair_in {Wo : Option Addr} {H : Hp} {z : Int × Int} : ∀ (qs : List (Int × Int)) {vs : List V} {m : List Addr}, RpA c.toKn Wo H vs (qs.map pairD) m → z ∈ qs → ∃ x ∈ vs, ∃ t2, x = .ref t2 ∧ SqT c.K H t2 ([z.1, z.2].map V.int)
  | [], _, _, _, h => by simp at h
  | a :: qs, vs, m, r, h => by
    cases r with
    | @cons v2 vs2 _ _ m1 m2 s1 s2 =>
      rcases List.mem_cons.mp h with rfl | h
      · obtain ⟨t3, e3, st3⟩ := pair_tup s1
        exact ⟨v2, by simp, t3, e3, st3⟩
      · obtain ⟨x, hx, g⟩ := pair_in qs s2 h
        exact ⟨x, by simp [hx], g⟩
theorem pairs_ord {Wo : Option Addr} {H : Hp} {K : PySem.W.Frag} {B : Int} : ∀ (qs : List (Int × Int)) {ys : List V} {n : List Addr}, RpA c.toKn Wo H ys (qs.map pairD) n → ys.Pairwise (fun x y => ∀ n m, TupI K H x n → TupI K H y m → TS.code B n ≤ TS.code B m) →
    (∀ t ns, SqT c.K H t ns → SqT K H t ns) → qs.Pairwise (fun a b => TS.code B [a.1, a.2] ≤ TS.code B [b.1, b.2])
  | [], _, _, _, _, _ => .nil
  | q :: qs, ys, n, r, h, hk => by
    cases r with
    | @cons v vs _ _ n1 n2 r1 r2 =>
      rw [List.pairwise_cons] at h ⊢
      refine ⟨fun z hz => ?_, pairs_ord qs r2 h.2 hk⟩
      obtain ⟨t, e, st⟩ := pair_tup r1
      obtain ⟨x, hx, t2, e2, st2⟩ := pair_in qs r2 hz
      exact h.1 x hx [q.1, q.2] [z.1, z.2] ⟨t, e, hk _ _ st⟩ ⟨t2, e2, hk _ _ st2⟩
theorem bls_vals {Wo : Option Addr} {H : Hp} : ∀ {ds : List D} {vs : List V} {ns : List Addr} {ks : List Bool}, RpA c.toKn Wo H vs ds ns → blsOf ds = some ks → vs = ks.map V.bl
  | [], _, _, _, r, h => by cases r; cases h; rfl
  | d :: ds, _, _, _, r, h => by
    cases r with
    | cons r1 r2 =>
      cases d with
      | bl i =>
        simp only [blsOf, Option.map_eq_some_iff] at h
        obtain ⟨ks, h, rfl⟩ := h
        cases r1
        rw [bls_vals r2 h]; rfl
      | _ => simp [blsOf] at h
theorem ints_rp {Wo : Option Addr} {H : Hp} : ∀ ks : List Int, RpA c.toKn Wo H (ks.map V.int) (ks.map D.int) []
  | [] => .nil
  | k :: ks => by
    have := RpA.cons (.int k) (ints_rp (Wo := Wo) (H := H) ks)
    simpa using this
theorem pure_ints : ∀ ks : List Int, pureAll (ks.map D.int) = true
  | [] => rfl
  | k :: ks => by simp [pureAll, D.pure, pure_ints ks]
theorem asL_cases {d : D} {k : List D → Prop} (h : asL d k) : ∃ ds, itemsL d = some ds ∧ k ds := by
  unfold asL at h
  cases q : itemsL d with
  | none => rw [q] at h; exact h.elim
  | some ds => rw [q] at h; exact ⟨ds, rfl, h⟩
theorem list_of {K : PySem.W.Frag} {Wo : Option Addr} {H : Hp} {v : V} {d : D} {ds : List D} {ns : List Addr} (r : Rp c.toKn Wo H v d ns) (h : itemsL d = some ds) :
    ∃ a xs m, v = .ref a ∧ SqL c.K H a xs ∧ RpA c.toKn Wo H xs ds m ∧ (∀ x ∈ m, x ∈ ns) := by
  cases d with
  | lst es =>
    cases h
    cases r with
    | lst s w r => exact ⟨_, _, _, rfl, SqL.of s, r, fun _ h => List.mem_cons_of_mem _ h⟩
  | fz es =>
    cases h
    cases r with
    | lsf s r => exact ⟨_, _, _, rfl, s.sq, r, fun _ h => h⟩
  | _ => simp [itemsL] at h
/-- one argument, two -/
theorem one_arg {Wo : Option Addr} {H : Hp} {vs : List V} {d : D} {ns : List Addr} (r : RpA c.toKn Wo H vs [d] ns) : ∃ v, vs = [v] ∧ Rp c.toKn Wo H v d ns := by
  cases r with
  | cons r1 r2 =>
    cases r2
    exact ⟨_, rfl, by simpa using r1⟩
theorem two_args {Wo : Option Addr} {H : Hp} {vs : List V} {d d2 : D} {ns : List Addr} (r : RpA c.toKn Wo H vs [d, d2] ns) : ∃ v u n1 n2, vs = [v, u] ∧ Rp c.toKn Wo H v d n1 ∧ Rp c.toKn Wo H u d2 n2 := by
  cases r with
  | cons r1 r2 =>
    cases r2 with
    | cons r2 r3 =>
      cases r3
      exact ⟨_, _, _, _, rfl, r1, r2⟩

def prName : Pr → Str
  | .len => "len" | .abs => "abs" | .max2 => "max" | .min2 => "min" | .maxl => "max" | .minl => "min" | .sum => "sum" | .all => "all" | .any => "any" | .sorted => "sorted" | .sortp => "sorted"
  | .list => "list" | .tuple => "tuple" | .int => "int" | .str => "str" | .repr => "repr" | .gcd => "gcd" | .divmod => "divmod"
def prVal : Pr → Value
  | .len => .builtin "len" | .abs => .builtin "abs" | .max2 => .builtin "max" | .min2 => .builtin "min" | .maxl => .builtin "max" | .minl => .builtin "min" | .sum => .builtin "sum" | .all => .builtin "all" | .any => .builtin "any" | .sorted => .builtin "sorted" | .sortp => .builtin "sorted"
  | .list => .type "list" | .tuple => .type "tuple" | .int => .type "int" | .str => .type "str" | .repr => .builtin "repr" | .gcd => .builtin "math.gcd" | .divmod => .builtin "divmod"
theorem does_prim (hK : X.K = c.K) (hc : X.calm = true) {k : Nat} (hr : Room k X.A) (hg : X.A.guards = some []) : ∀ p : Pr, DoesP c X (prVal p) (prim p)
  | .len => by
    refine ⟨_, call_len_seq.or call_len_str, fun Wo H vs ds ns w k Q r o m g => ?_⟩
    unfold prim at m
    split at m <;> try contradiction
    · obtain ⟨v, rfl, r1⟩ := one_arg r
      cases r1
      exact .inr ⟨_, rfl, LIM m.1, g.here m.2 (.int _) o⟩
    · obtain ⟨v, rfl, r1⟩ := one_arg r
      obtain ⟨xs, hi, m⟩ := asS_cases m
      obtain ⟨p, us, m', rfl, hs, rm, hm, _⟩ := seq_of (K := X.K) r1 hi
      refine .inl ⟨p, us, rfl, by rw [hK]; exact hs.symm, ?_⟩
      rw [rm.length]
      exact g.here m (.int _) o
  | .abs => by
    refine ⟨_, call_abs, fun Wo H vs ds ns w k Q r o m g => ?_⟩
    unfold prim at m
    split at m <;> try contradiction
    obtain ⟨v, rfl, r1⟩ := one_arg r
    cases r1
    exact ⟨_, rfl, g.here m (.int _) o⟩
  | .max2 => by
    refine ⟨_, call_max2 hc, fun Wo H vs ds ns w k Q r o m g => ?_⟩
    unfold prim at m
    split at m <;> try contradiction
    obtain ⟨v, u, n1, n2, rfl, r1, r2⟩ := two_args r
    cases r1; cases r2
    exact ⟨_, _, rfl, g.here m (.int _) o⟩
  | .min2 => by
    refine ⟨_, call_min2 hc, fun Wo H vs ds ns w k Q r o m g => ?_⟩
    unfold prim at m
    split at m <;> try contradiction
    obtain ⟨v, u, n1, n2, rfl, r1, r2⟩ := two_args r
    cases r1; cases r2
    exact ⟨_, _, rfl, g.here m (.int _) o⟩
  | .maxl => by
    refine ⟨_, cr_max hc, fun Wo H vs ds ns w k Q r o m g => ?_⟩
    unfold prim at m
    split at m <;> try contradiction
    obtain ⟨v, rfl, r1⟩ := one_arg r
    obtain ⟨xs, hi, ks, hk, h0, m⟩ := asL_cases m
    obtain ⟨p, us, m', rfl, hs, rm, hm⟩ := list_of (K := X.K) r1 hi
    have e := ints_vals rm hk
    subst e
    exact ⟨p, ks, rfl, by rw [hK]; exact hs, h0, fun z h1 h2 => g.here (m z h1 h2) (.int _) o⟩
  | .minl => by
    refine ⟨_, cr_min hc, fun Wo H vs ds ns w k Q r o m g => ?_⟩
    unfold prim at m
    split at m <;> try contradiction
    obtain ⟨v, rfl, r1⟩ := one_arg r
    obtain ⟨xs, hi, ks, hk, h0, m⟩ := asL_cases m
    obtain ⟨p, us, m', rfl, hs, rm, hm⟩ := list_of (K := X.K) r1 hi
    have e := ints_vals rm hk
    subst e
    exact ⟨p, ks, rfl, by rw [hK]; exact hs, h0, fun z h1 h2 => g.here (m z h1 h2) (.int _) o⟩
  | .sum => by
    refine ⟨_, cr_sum hc, fun Wo H vs ds ns w k Q r o m g => ?_⟩
    unfold prim at m
    split at m <;> try contradiction
    obtain ⟨v, rfl, r1⟩ := one_arg r
    obtain ⟨xs, hi, ks, hk, m⟩ := asL_cases m
    obtain ⟨p, us, m', rfl, hs, rm, hm⟩ := list_of (K := X.K) r1 hi
    have e := ints_vals rm hk
    subst e
    exact ⟨p, ks, rfl, by rw [hK]; exact hs, g.here m (.int _) o⟩
  | .all => by
    refine ⟨_, cr_all hc, fun Wo H vs ds ns w k Q r o m g => ?_⟩
    unfold prim at m
    split at m <;> try contradiction
    obtain ⟨v, rfl, r1⟩ := one_arg r
    obtain ⟨ks, hk, m⟩ := m
    cases r1 with
    | @lst p us _ m1 s1 w1 q1 =>
      have e := bls_vals q1 hk
      subst e
      exact ⟨p, ks, rfl, SqL.of s1, g.here m (.bl _) o⟩
  | .any => by
    refine ⟨_, cr_any hc, fun Wo H vs ds ns w k Q r o m g => ?_⟩
    unfold prim at m
    split at m <;> try contradiction
    obtain ⟨v, rfl, r1⟩ := one_arg r
    obtain ⟨ks, hk, m⟩ := m
    cases r1 with
    | @lst p us _ m1 s1 w1 q1 =>
      have e := bls_vals q1 hk
      subst e
      exact ⟨p, ks, rfl, SqL.of s1, g.here m (.bl _) o⟩
  | .sorted => by
    refine ⟨_, cr_sortedI, fun Wo H vs ds ns w k Q r o m g => ?_⟩
    unfold prim at m
    split at m <;> try contradiction
    obtain ⟨v, rfl, r1⟩ := one_arg r
    obtain ⟨xs, hi, ks, hk, m⟩ := asL_cases m
    obtain ⟨p, us, m', rfl, hs, rm, hm⟩ := list_of (K := X.K) r1 hi
    have e := ints_vals rm hk
    subst e
    exact ⟨p, ks, rfl, by rw [hK]; exact hs, fun ns' q h1 h2 nq => g.newL' (m ns' h1 h2) (fun _ => pure_ints ns') (ints_rp ns') o nq fun a ha => by simp at ha⟩
  | .sortp => by
    refine ⟨fun vs H Q => (∃ B, rSortU X.K 2 B vs H Q) ∨ rSortP X.K vs H Q, fun pins s σ H xs us Q I r h => h.elim (fun h => h.elim fun B h => cr_sortT (d := 2) (B := B) (by decide) pins s σ H xs us Q I r h) fun h => cr_sortP pins s σ H xs us Q I r h, fun Wo H vs ds ns w k Q r o m g => ?_⟩
    unfold prim at m
    split at m <;> try contradiction
    obtain ⟨v, rfl, r1⟩ := one_arg r
    obtain ⟨xs, hi, ps, rfl, m⟩ := asL_cases m
    obtain ⟨p, us, m', rfl, hs, rm, hm⟩ := list_of (K := X.K) r1 hi
    have pu : pureAll (ps.map pairD) = true := pure_pairs ps
    have e0 := rm.pure_nil _ pu
    subst e0
    rcases m with ⟨B, h64, hB, m⟩ | m
    · refine .inl ⟨B, p, us, rfl, by rw [hK]; exact hs, by rw [rm.length, List.length_map]; exact h64, fun x hx => ?_, fun ys q hp hw nq => ?_⟩
      · obtain ⟨q, hq, t, e, st⟩ := pairs_mem ps rm hx
        exact ⟨[q.1, q.2], ⟨t, e, by rw [hK]; exact st⟩, rfl, hB q hq⟩
      · obtain ⟨qs, q1, q2⟩ := pairs_perm hp ps rm
        refine g.newL' (m qs q1 (pairs_ord qs q2 hw fun t ns z => by rw [hK]; exact z)) (fun _ => pure_pairs qs) q2 o nq fun a ha => by cases ha
    · refine .inr ⟨p, us, rfl, by rw [hK]; exact hs, fun x hx => ?_, fun ys q hp nq => ?_⟩
      · obtain ⟨q, hq, t, e, st⟩ := pairs_mem ps rm hx
        exact ⟨t, q.1, q.2, e, by rw [hK]; exact st⟩
      · obtain ⟨qs, q1, q2⟩ := pairs_perm hp ps rm
        refine g.newL' (m qs q1) (fun _ => pure_pairs qs) q2 o nq fun a ha => by cases ha
  | .list => by
    refine ⟨_, call_list_of, fun Wo H vs ds ns w k Q r o m g => ?_⟩
    unfold prim at m
    split at m <;> try contradiction
    obtain ⟨v, rfl, r1⟩ := one_arg r
    obtain ⟨xs, hi, m⟩ := asS_cases m
    obtain ⟨p, us, m', rfl, hs, rm, hm, _⟩ := seq_of (K := X.K) r1 hi
    exact ⟨p, us, rfl, by rw [hK]; exact hs.symm, fun l nl => g.newL m rm o nl hm⟩
  | .tuple => by
    refine ⟨_, call_tuple_of, fun Wo H vs ds ns w k Q r o m g => ?_⟩
    unfold prim at m
    split at m <;> try contradiction
    · obtain ⟨v, rfl, r1⟩ := one_arg r
      cases r1 with
      | @tup p us _ m1 s1 q1 => exact ⟨p, us, rfl, .inr ⟨by rw [hK]; exact s1, g.oldT m s1 q1 o fun a ha => ha⟩⟩
    · obtain ⟨v, rfl, r1⟩ := one_arg r
      cases r1 with
      | @lst p us _ m1 s1 w1 q1 => exact ⟨p, us, rfl, .inl ⟨SqL.of s1, fun l nl => g.newT m q1 o nl fun a ha => List.mem_cons_of_mem _ ha⟩⟩
    · obtain ⟨v, rfl, r1⟩ := one_arg r
      cases r1 with
      | @lsf p us _ m1 s1 q1 => exact ⟨p, us, rfl, .inl ⟨by rw [hK]; exact s1.sq, fun l nl => g.newT m q1 o nl fun a ha => ha⟩⟩
  | .int => by
    refine ⟨_, call_int1, fun Wo H vs ds ns w k Q r o m g => ?_⟩
    unfold prim at m
    split at m <;> try contradiction
    · obtain ⟨v, rfl, r1⟩ := one_arg r
      cases r1
      exact .inl ⟨_, rfl, g.here m (.int _) o⟩
    · obtain ⟨v, rfl, r1⟩ := one_arg r
      cases r1
      exact .inr ⟨_, rfl, g.here m (.int _) o⟩
  | .str => by
    refine ⟨_, call_str_int, fun Wo H vs ds ns w k Q r o m g => ?_⟩
    unfold prim at m
    split at m <;> try contradiction
    obtain ⟨v, rfl, r1⟩ := one_arg r
    cases r1
    exact ⟨_, rfl, by have := m.1; omega, g.here m.2 (.str _) o⟩
  | .repr => by
    refine ⟨_, call_reprD hK hr hg, fun Wo H vs ds ns w k Q r o m g => ?_⟩
    unfold prim at m
    split at m <;> try contradiction
    obtain ⟨v, rfl, r1⟩ := one_arg r
    exact ⟨v, _, Wo, _, rfl, r1, m.1, g.here m.2 (.str _) o⟩
  | .gcd => by
    refine ⟨_, cr_gcd, fun Wo H vs ds ns w k Q r o m g => ?_⟩
    unfold prim at m
    split at m <;> try contradiction
    obtain ⟨v, u, n1, n2, rfl, r1, r2⟩ := two_args r
    cases r1; cases r2
    exact ⟨_, _, rfl, g.here m (.int _) o⟩
  | .divmod => by
    refine ⟨_, call_divmod, fun Wo H vs ds ns w k Q r o m g => ?_⟩
    unfold prim at m
    split at m <;> try contradiction
    obtain ⟨v, u, n1, n2, rfl, r1, r2⟩ := two_args r
    cases r1; cases r2
    exact ⟨_, _, rfl, m.1, fun p np => g.newT' m.2 (fun _ => by simp [pureAll, D.pure]) (ints_rp [_, _]) o np fun a ha => by simp at ha⟩
end
end Ev

set_option Elab.async false
set_option linter.all false
set_option maxRecDepth 100000
set_option maxHeartbeats 4000000
/-! # EvK: calls -/
namespace Ev
open PySem PySem.Spec PyProof.Rows L2

section
variable {c : Kx} {X : Cx} {Wx : WX} {T : Tab} {e a b d' : Expr} {es : List Expr} {fv fv1 fv2 fv3 : List Nat} {p pos : Pos} {x y z : Ex} {xs ks : Exs} {n : Str} {kws : List Keyword}

/-- a list's outcome as what a rule starts from -/
theorem goes_of {Wo : Option Addr} {nf : Nat → List Addr} {ρ : Slots} {H H1 : Hp} {vs : List V} {ds : List D} {fr : Nat} {w1 : Wl} {ns : List Addr} {K : KE} {Q : VK} (l : LiftK c.toKn Wo nf ρ fv H K Q) (r : ResA c.toKn Wo nf ρ fv H H1 vs ds fr w1 ns) : Goes c Wo H1 ns w1 (fun d fr => K d fr w1) Q := by
  intro d' fr kd z ns' H4 rz kz oz og g1 g2
  refine l d' fr w1 kd z ns' H4 ⟨rz, r.kp.trans kz, oz, fun a ha => ?_, fun f es e a m en => ⟨r.kp.dom a (g1 f es e a m en).1, (g1 f es e a m en).2⟩, fun f => ⟨(g2 f).1, fun a ha => r.kp.dom a ((g2 f).2 a ha)⟩⟩
  exact (og a ha).elim (fun q => .inl (r.kp.dom a q)) fun q => r.org a q
theorem boot_pr : ∀ q : Pr, q ≠ .gcd → bootBuiltins (prName q) = some (prVal q)
  | .len, _ => by decide +kernel
  | .abs, _ => by decide +kernel
  | .max2, _ => by decide +kernel
  | .min2, _ => by decide +kernel
  | .maxl, _ => by decide +kernel
  | .minl, _ => by decide +kernel
  | .sum, _ => by decide +kernel
  | .all, _ => by decide +kernel
  | .any, _ => by decide +kernel
  | .sorted, _ => by decide +kernel
  | .sortp, _ => by decide +kernel
  | .list, _ => by decide +kernel
  | .tuple, _ => by decide +kernel
  | .int, _ => by decide +kernel
  | .str, _ => by decide +kernel
  | .repr, _ => by decide +kernel
  | .gcd, h => absurd rfl h
  | .divmod, _ => by decide +kernel
theorem pr_plain : ∀ q : Pr, prName q ≠ "__name__" ∧ (prName q == ("__debug__" : Str)) = false := by
  intro q
  cases q <;> exact ⟨by decide +kernel, by decide +kernel⟩
theorem prVal_cases : ∀ q : Pr, (∃ id, prVal q = .builtin id) ∨ ∃ id, prVal q = .type id := by
  intro q
  cases q <;> first | exact .inl ⟨_, rfl⟩ | exact .inr ⟨_, rfl⟩
theorem se_prim {q : Pr} {k : Nat} (hK : X.K = c.K) (hc : X.calm = true) (hr : Room k X.A) (hgd : X.A.guards = some []) (hg : Gl X (prName q)) (hm : q ≠ .gcd → X.mg (prName q) = none) (hm2 : q = .gcd → X.mg "gcd" = some (.builtin "math.gcd"))
    (h : SA c X Wx (e :: es) fv (wEs T xs)) (hs : (e :: es).all noStar = true) : SE c X Wx (.Call (.Name (prName q) p) (e :: es) [] pos) fv (wE T (.prim q xs)) := by
  obtain ⟨t, ht, hd⟩ := h
  obtain ⟨r, rc, rd⟩ := does_prim (c := c) hK hc hr hgd q
  simp only [List.all_cons, Bool.and_eq_true] at hs
  obtain ⟨n1, n2⟩ := pr_plain q
  have pe : PE X (.Call (.Name (prName q) p) (e :: es) [] pos) (tCB r t) := by
    by_cases g : q = .gcd
    · subst g
      exact pe_callBfun rc hg (hm2 rfl) ht n2 (star_cons hs.1) (star_plain hs.2)
    · rcases prVal_cases q with ⟨id, e⟩ | ⟨id, e⟩
      · rw [e] at rc
        exact pe_callB rc hg (hm g) (by rw [boot_pr q g, e]) ht n1 n2 (star_cons hs.1) (star_plain hs.2)
      · rw [e] at rc
        exact pe_callTy rc hg (hm g) (by rw [boot_pr q g, e]) ht n1 n2 (star_cons hs.1) (star_plain hs.2)
  refine ⟨_, pe, fun Wo nf ρ w σ H K E Q S l lx p => ?_⟩
  refine hd Wo nf ρ w σ H _ E _ S (fun ds fr w1 k vs ns H1 r1 => ?_) lx p
  exact rd Wo H1 vs ds ns w1 _ Q r1.rp r1.wok k (goes_of l r1)

/-! ### defs -/
theorem fin_call {Wo : Option Addr} {nf : Nat → List Addr} {ρ : Slots} {σ : L2.St} {H H1 : Hp} {vs : List V} {ds : List D} {fr : Nat} {w1 : Wl} {ns : List Addr} {K : KE} {E : XQ} {Q : VK} {S : Spc} (l : LiftK c.toKn Wo nf ρ fv H K Q) (lx : LiftX c Wo nf ρ σ H E Wx) (r : ResA c.toKn Wo nf ρ fv H H1 vs ds fr w1 ns)
    (h : S ds w1 (fun d fr w2 => K d (if d.pure = true then 2 else fr) w2) E) : spOf c S vs H1 Q (fun cl d H' => Wx cl d σ H') := by
  refine ⟨Wo, w1, ds, ns, _, E, r.rp, r.wok, h, fun d fr w' kd v n2 H' rp kp wok og f1 f2 => ?_, fun g od w' e dx H' kp wok ex => ?_⟩
  · by_cases pu : d.pure = true
    · rw [if_pos pu] at kd
      have e := rp.pure_nil d pu
      subst e
      exact l d 2 w' kd v [] H' (.pur rp (r.kp.trans kp) wok)
    · rw [if_neg pu] at kd
      refine l d fr w' kd v n2 H' ⟨rp, r.kp.trans kp, wok, fun a ha => ?_, fun f es e a m en => ⟨r.kp.dom a (f1 f es e a m en).1, (f1 f es e a m en).2⟩, fun f => ⟨(f2 f).1, fun a ha => r.kp.dom a ((f2 f).2 a ha)⟩⟩
      exact (og a ha).elim (fun q => .inl (r.kp.dom a q)) fun q => r.org a q
  · refine lx g od w' e dx H' (r.kp.trans kp) wok (ex.imp fun b h => ?_)
    rcases h with h | h
    · exact .inl (r.kp.dom b h)
    · exact (r.org b h).imp id fun ⟨i, _, lv, hi⟩ => ⟨i, lv, hi⟩
theorem se_call {k g : Nat} (hr : Room k X.A) (hgd : X.A.guards = some []) (tk : Takes X Wx) (F : HasFn c X k n g (T.fn g)) (hg : Gl X n) (hdb : (n == ("__debug__" : Str)) = false) (h : SA c X Wx es fv (wEs T xs)) (hs : es.all noStar = true) (hn : es = [] → xs = .nil) :
    SE c X Wx (.Call (.Name n p) es [] pos) fv (wE T (.call n g xs)) := by
  obtain ⟨fd, ps, G, hb⟩ := F.ex
  obtain ⟨t, ht, hd⟩ := h
  cases es with
  | nil =>
    have e := hn rfl
    subst e
    refine ⟨_, peG_call0 G hr hgd hg F.mg F.kp hb tk hdb, fun Wo nf ρ w σ H K E Q S l lx p => ?_⟩
    exact fin_call l lx ⟨.nil, .refl, S.wok, fun a h => by simp at h, fun _ => ⟨List.nodup_nil, fun a h => by simp at h⟩⟩ (fr := 2) (ns := []) p
  | cons e es =>
    refine ⟨_, peG_call G hr hgd hg F.mg F.kp hb tk ht hdb hs, fun Wo nf ρ w σ H K E Q S l lx p => ?_⟩
    exact hd Wo nf ρ w σ H _ E _ S (fun ds fr w1 k vs ns H1 r => fin_call l lx r k) lx p

/-- a local name that holds a def -/
def tCallH (i : Nat) (S : Addr → Option Sp) (Wx : WX) (t : TA) : TE := fun σ H Q => ∃ f sp, σ[i]? = some (some (.ref f)) ∧ S f = some sp ∧ t σ H fun vs H1 => sp vs H1 Q (fun cl d H' => Wx cl d σ H')
theorem peG_callv {k i : Nat} (hr : Room k X.A) (hgd : X.A.guards = some []) (tk : Takes X Wx) (hN : X.N[i]? = some n) (hv : Vis X.env.scope n) (hdb : (n == ("__debug__" : Str)) = false) (hcd : (n == ("__classdict__" : Str)) = false) {t : TA} (ha : PA X (e :: es) t) (hst : (e :: es).all noStar = true)
    {G : Nat → Prop} (HV : ∀ g, G g → HasV c X k g (T.fn g)) :
    PE X (.Call (.Name n p) (e :: es) [] pos) (fun σ H Q => ∃ g, G g ∧ σ[i]? = some (some (.ref (c.fa g))) ∧ t σ H fun vs H1 => spOf c (T.fn g) vs H1 Q (fun cl d H' => Wx cl d σ H')) := by
  constructor
  intro pins s σ H Q I h
  obtain ⟨g, hG, hs, h⟩ := h
  have F := HV g hG
  obtain ⟨fd, ps, Fg, hb⟩ := F.ex
  apply wpAny_Call_Name_kw
  refine thn ((pe_var (pos := p) hN hv hdb hcd).run pins s σ H (fun v H1 => v = .ref (c.fa g) ∧ H1 = H) I ⟨_, hs, rfl, rfl⟩) ?_
  rintro u s1 ⟨v, H1, I1, r1, rfl, rfl⟩
  cases r1
  simp only [List.all_cons, Bool.and_eq_true] at hst
  refine PySem.W.callWith_K (h₀ := X.base) I.ok.mod.kin F.kp ?_ (star_cons hst.1) (star_plain hst.2)
  refine thn (ha.run pos pins s1 σ _ _ I1 h) ?_
  rintro us s2 ⟨vs, H2, I2, r, q⟩
  exact ⟨I2.kIn, runG Fg hr hgd (binds_of Fg hb I2 r q) tk I2 r q⟩
theorem se_callv {k i : Nat} (hr : Room k X.A) (hgd : X.A.guards = some []) (tk : Takes X Wx) (hN : X.N[i]? = some n) (hv : Vis X.env.scope n) (hdb : (n == ("__debug__" : Str)) = false) (hcd : (n == ("__classdict__" : Str)) = false)
    (HV : ∀ g, T.cv g = true → HasV c X k g (T.fn g)) (h : SA c X Wx (e :: es) fv (wEs T xs)) (hs : (e :: es).all noStar = true) : SE c X Wx (.Call (.Name n p) (e :: es) [] pos) (i :: fv) (wE T (.callv i xs)) := by
  obtain ⟨t, ht, hd⟩ := h
  refine ⟨_, peG_callv (G := fun g => T.cv g = true) hr hgd tk hN hv hdb hcd ht hs HV, fun Wo nf ρ w σ H K E Q S l lx p => ?_⟩
  simp only [wE, slot] at p
  cases q : ρ[i]? with
  | none => rw [q] at p; simp at p
  | some o =>
    cases o with
    | none => rw [q] at p; simp at p
    | some do' =>
      obtain ⟨d, o⟩ := do'
      rw [q] at p
      simp only [Option.join_some] at p
      obtain ⟨v, h1, h2⟩ := S.slot i d o q
      generalize nf i = m at h2
      cases d with
      | fn g =>
        cases h2
        refine ⟨g, p.1, h1, ?_⟩
        refine hd Wo nf ρ w σ H _ E _ S (fun ds fr w1 k vs ns H1 r => fin_call (fun d fr w' k v ns H' r => l d fr w' k v ns H' (r.mono fun i hi => by simp [hi])) lx r k) lx p.2
      | _ => exact p.elim

/-! ### keywords -/
def SK (c : Kx) (X : Cx) (Wx : WX) (kws : List Keyword) (fv : List Nat) (P : Slots → Wl → KA → XQ → Prop) : Prop :=
  ∃ t, PK X kws t ∧ ∀ Wo nf ρ w σ H K E Q, SimE c.toKn Wo nf ρ w σ H → LiftA c.toKn Wo nf ρ fv H K Q → LiftX c Wo nf ρ σ H E Wx → P ρ w K E → t σ H Q
theorem sk_nil : SK c X Wx [] fv (wEs T .nil) :=
  ⟨tNil, pk_nil, fun Wo nf ρ w σ H K E Q S l lx p => l [] 2 w p [] [] H ⟨.nil, .refl, S.wok, fun a h => by simp at h, fun _ => ⟨List.nodup_nil, fun a h => by simp at h⟩⟩⟩
theorem sk_cons {nm : Option Str} {kp : Pos} (h : SE c X Wx e fv1 (wE T x)) (hr : SK c X Wx kws fv2 (wEs T xs)) : SK c X Wx (⟨nm, e, kp⟩ :: kws) (fv1 ++ fv2) (wEs T (.cons x xs)) := by
  obtain ⟨t1, h1, s1⟩ := h
  obtain ⟨t2, h2, s2⟩ := hr
  refine ⟨tCons t1 t2, pk_cons h1 h2, fun Wo nf ρ w σ H K E Q S l lx p => ?_⟩
  refine s1 Wo nf ρ w σ H _ E _ S (fun d fr w1 k v n1 H1 r => ?_) lx p
  refine s2 Wo nf ρ w1 σ H1 _ E _ (r.sim S) (fun ds fs w2 k2 vs n2 H2 r2 => ?_) (lx.step r.kp) k
  exact l _ _ _ k2 _ _ _ (r.both r2)
/-- the keywords' names are these -/
def kwNames (kws : List Keyword) : List (Option Str) := kws.map (·.arg)
theorem kw_each {env : Env} : ∀ {kws : List Keyword}, (keywordEach kws env).map (·.1) = kwNames kws
  | [] => rfl
  | ⟨n, v, q⟩ :: kws => by
    show n :: (keywordEach kws env).map (·.1) = n :: kwNames kws
    rw [kw_each]
theorem kw_back {env : Env} {f : Option Str → Bool} : ∀ l : List (Option Str × Sem Value), (backToKw pos l).all (fun y => f y.1) = (l.map (·.1)).all f
  | [] => rfl
  | (a, b) :: l => by
    have := kw_back (env := env) (f := f) l
    show (f a && (backToKw pos l).all fun y => f y.1) = (f a && (l.map (·.1)).all f)
    rw [this]
theorem kw_any {f : Option Str → Bool} : ∀ l : List (Option Str × Sem Value), (backToKw pos l).any (fun y => f y.1) = (l.map (·.1)).any f
  | [] => rfl
  | (a, b) :: l => by
    have := kw_any (f := f) l
    show (f a || (backToKw pos l).any fun y => f y.1) = (f a || (l.map (·.1)).any f)
    rw [this]
theorem kw_fm : ∀ l : List (Option Str × Sem Value), (backToKw pos l).filterMap (·.1) = (l.map (·.1)).filterMap id
  | [] => rfl
  | (none, b) :: l => kw_fm l
  | (some a, b) :: l => by
    have := kw_fm l
    show a :: (backToKw pos l).filterMap (·.1) = a :: (l.map (·.1)).filterMap id
    rw [this]
theorem kw_ok {kn : List Str} (h : kwNames kws = kn.map some) : (backToKw pos (keywordEach kws X.env)).all (·.1.isSome) = true ∧ (backToKw pos (keywordEach kws X.env)).filterMap (·.1) = kn ∧ (backToKw pos (keywordEach kws X.env)).any (·.1.isNone) = false := by
  have e : (keywordEach kws X.env).map (·.1) = kn.map some := by rw [kw_each]; exact h
  refine ⟨?_, ?_, ?_⟩
  · rw [kw_back (env := X.env) (f := Option.isSome), e]; simp
  · rw [kw_fm, e]; simp
  · rw [kw_any (f := Option.isNone), e]; simp
theorem se_callk {k m : Nat} {kn : List Str} (hr : Room k X.A) (hgd : X.A.guards = some []) (tk : Takes X Wx) (F : HasKw c X k n kn (T.kw m)) (hg : Gl X n) (h : SA c X Wx es fv1 (wEs T xs)) (hk : SK c X Wx kws fv2 (wEs T ks)) (hs : es.all noStar = true) (hn : es = [] → xs = .nil)
    (hkn : kwNames kws = kn.map some) : SE c X Wx (.Call (.Name n p) es kws pos) (fv1 ++ fv2) (wE T (.callk n m xs ks)) := by
  obtain ⟨f, fd, ps, S', g, gV, gD, G, hb, mg, kp, hS⟩ := F.ex
  obtain ⟨t, ht, hd⟩ := h
  obtain ⟨t2, ht2, hd2⟩ := hk
  obtain ⟨a1, a2, a3⟩ := kw_ok (X := X) (pos := pos) hkn
  have fin : ∀ (pins : List (Addr × Obj)) (s : Shared) (σ : L2.St) (H : Hp) (vs zs : List V) (us ws : List Value) (Q : VK), Inv X pins σ H s → Vals vs us → Vals zs ws → spOf c S' (gV vs zs) H Q (fun cl d H' => Wx cl d σ H') → wpAny (model X.prog X.w) X.A (call (.ref f) us (kn.zip ws)) (EP X pins σ Q) X.xe s := by
    intro pins s σ H vs zs us ws Q I r rz q
    have r2 := hb.rel r rz
    have hl : (g us ws).length = ps.length := by rw [← r2.length]; exact G.len _ _ _ _ q
    exact runG G hr hgd (hb.to s us ws I.kIn hl) tk I r2 q
  -- the readings' end
  have last : ∀ Wo nf ρ σ H K E Q (ds es2 : List D) (fr fr2 : Nat) (w1 w2 : Wl) (vs zs : List V) (ns n2 : List Addr) (H1 H2 : Hp), LiftK c.toKn Wo nf ρ (fv1 ++ fv2) H K Q → LiftX c Wo nf ρ σ H E Wx → ResA c.toKn Wo nf ρ fv1 H H1 vs ds fr w1 ns → ResA c.toKn Wo nf ρ fv2 H1 H2 zs es2 fr2 w2 n2 →
      T.kw m ds es2 w2 (fun d fr w3 => K d (if d.pure = true then 2 else fr) w3) E → spOf c S' (gV vs zs) H2 Q (fun cl d H' => Wx cl d σ H') := by
    intro Wo nf ρ σ H K E Q ds es2 fr fr2 w1 w2 vs zs ns n2 H1 H2 l lx r r2 kk
    obtain ⟨k1, k2⟩ := hS _ _ _ _ _ kk
    obtain ⟨n3, q1, q2⟩ := k2 Wo H2 vs zs ns n2 (r.rp.kp r2.kp r.wok.ls) r2.rp
    refine fin_call (fr := 0) (ds := gD ds es2) (w1 := w2) l lx ⟨q1, r.kp.trans r2.kp, r2.wok, fun a ha => ?_, fun f => by omega⟩ k1
    rcases List.mem_append.mp (q2 a ha) with ha | ha
    · exact (r.org a ha).imp id fun ⟨i, hi, q⟩ => ⟨i, by simp [hi], q⟩
    · exact (r2.org a ha).imp (r.kp.dom a) fun ⟨i, hi, q⟩ => ⟨i, by simp [hi], q⟩
  cases es with
  | nil =>
    have exs := hn rfl
    subst exs
    have pe : PE X (.Call (.Name n p) [] kws pos) (fun σ H Q => t2 σ H fun zs H2 => spOf c S' (gV [] zs) H2 Q (fun cl d H' => Wx cl d σ H')) := by
      constructor
      intro pins s σ H Q I h
      apply wpAny_Call_Name_kw
      refine ld_glob I hg mg ?_ F.db
      refine PySem.W.callWith_KW0 (h₀ := X.base) I.ok.mod.kin kp a1 ?_ (by rw [a3]; rfl)
      refine thn (ht2.run pos pins s σ H _ I h) ?_
      rintro ws s2 ⟨zs, H2, I2, rz, q2⟩
      refine ⟨I2.kIn, ?_⟩
      rw [a2]
      exact fin pins s2 σ H2 [] zs [] ws Q I2 .nil rz q2
    refine ⟨_, pe, fun Wo nf ρ w σ H K E Q S l lx p => ?_⟩
    refine hd2 Wo nf ρ w σ H _ E _ S (fun es2 fr2 w2 k2 zs n2 H2 r2 => ?_) lx p
    exact last Wo nf ρ σ H K E Q [] es2 2 fr2 w w2 [] zs [] n2 H H2 l lx ⟨.nil, .refl, S.wok, fun a h => by simp at h, fun _ => ⟨List.nodup_nil, fun a h => by simp at h⟩⟩ r2 k2
  | cons e es =>
    have pe : PE X (.Call (.Name n p) (e :: es) kws pos) (fun σ H Q => t σ H fun vs H1 => t2 σ H1 fun zs H2 => spOf c S' (gV vs zs) H2 Q (fun cl d H' => Wx cl d σ H')) := by
      constructor
      intro pins s σ H Q I h
      apply wpAny_Call_Name_kw
      refine ld_glob I hg mg ?_ F.db
      simp only [List.all_cons, Bool.and_eq_true] at hs
      refine PySem.W.callWith_KW (h₀ := X.base) I.ok.mod.kin kp a1 ?_ ?_ (star_cons hs.1)
      · refine thn (ht.run pos pins s σ H _ I h) ?_
        rintro us s1 ⟨vs, H1, I1, r, q⟩
        refine thn (ht2.run pos pins s1 σ H1 _ I1 q) ?_
        rintro ws s2 ⟨zs, H2, I2, rz, q2⟩
        refine ⟨I2.kIn, ?_⟩
        rw [a2]
        exact fin pins s2 σ H2 vs zs us ws Q I2 (r) rz q2
      · rw [a3, star_plain (by simp [hs.1, hs.2])]; rfl
    refine ⟨_, pe, fun Wo nf ρ w σ H K E Q S l lx p => ?_⟩
    refine hd Wo nf ρ w σ H _ E _ S (fun ds fr w1 k vs ns H1 r => ?_) lx p
    refine hd2 Wo nf ρ w1 σ H1 _ E _ (S.step r.kp r.wok) (fun es2 fr2 w2 k2 zs n2 H2 r2 => ?_) (lx.step r.kp) k
    exact last Wo nf ρ σ H K E Q ds es2 fr fr2 w1 w2 vs zs ns n2 H1 H2 l lx r r2 k2

/-! ### isinstance -/
def tyName : Ty → Str
  | .int => "int" | .bool => "bool" | .tuple => "tuple" | .list => "list" | .str => "str"
def tyS : Ty → String
  | .int => "int" | .bool => "bool" | .tuple => "tuple" | .list => "list" | .str => "str"
theorem boot_ty : ∀ t : Ty, bootBuiltins (tyName t) = some (.type (tyS t)) ∧ tyName t ≠ "__name__" ∧ (tyName t == ("__debug__" : Str)) = false := by
  intro t
  cases t <;> exact ⟨by decide +kernel, by decide +kernel, by decide +kernel⟩
theorem boot_isi : bootBuiltins "isinstance" = some (.builtin "isinstance") := by decide +kernel
/-- the type of a tree, as a name -/
def tyOfD : D → Option String
  | .non => some "NoneType"
  | .bl _ => some "bool"
  | .int _ => some "int"
  | .str _ => some "str"
  | .tup _ => some "tuple"
  | .lst _ => some "list"
  | .dic _ => some "dict"
  | _ => none
theorem kit_isTy {t : Ty} {d : D} {b : Bool} (h : isTy t d = some b) : ∃ s, tyOfD d = some s ∧ kitB s (tyS t) = some b := by
  cases t <;> cases d <;> simp only [isTy] at h <;> first | (cases h; refine ⟨_, rfl, ?_⟩; decide +kernel) | cases h
theorem tyX_of {Wo : Option Addr} {H : Hp} {v : V} {d : D} {ns : List Addr} {s : String} (r : Rp c.toKn Wo H v d ns) (h : tyOfD d = some s) : TyX c.K H v (.type s) := by
  cases r with
  | non => cases h; exact .base .non
  | bl b => cases h; exact .base (.bl b)
  | int b => cases h; exact .base (.int b)
  | str b => cases h; exact .base (.str b)
  | tup e r =>
    cases h
    rcases e with (e | ⟨o, e⟩) | ⟨o, its, n, e1, e2, _⟩
    · exact .base (.tup e)
    · exact .fTuple e
    · exact .kTuple e1 e2
  | lst e w r => cases h; exact .base (.lst e)
  | dic e => cases h; exact .base (.dK e)
  | lsf e r => cases h
  | fn g => cases h
  | wel e => cases h
theorem se_isi {t : Ty} {p2 : Pos} (hK : X.K = c.K) (hg : Gl X "isinstance") (hm : X.mg "isinstance" = none) (hg2 : Gl X (tyName t)) (hm2 : X.mg (tyName t) = none) (h : SE c X Wx a fv (wE T x)) (hs : noStar a = true) :
    SE c X Wx (.Call (.Name "isinstance" p) [a, .Name (tyName t) p2] [] pos) fv (wE T (.isi x t)) := by
  obtain ⟨t1, ht, hd⟩ := h
  obtain ⟨b1, b2, b3⟩ := boot_ty t
  have pa : PA X [a, .Name (tyName t) p2] (tCons t1 (tCons (tC (.ty (tyS t))) tNil)) :=
    pa_cons ht (pa_cons (pe_bltn (v := .ty (tyS t)) hg2 hm2 b1 rfl b2 b3) pa_nil (star_cons rfl)) (star_cons hs)
  refine ⟨_, pe_callB call_isi hg hm boot_isi pa (by decide +kernel) (by decide +kernel) (star_cons hs) (star_plain rfl), fun Wo nf ρ w σ H K E Q S l lx p => ?_⟩
  refine hd Wo nf ρ w σ H _ E _ S (fun d fr w1 k v ns H1 r => ?_) lx p
  cases q : isTy t d with
  | none => rw [q] at k; exact k.elim
  | some b =>
    rw [q] at k
    obtain ⟨s, s1, s2⟩ := kit_isTy q
    refine ⟨v, .ty (tyS t), .type s, .type (tyS t), b, rfl, .ty _, by rw [hK]; exact tyX_of r.rp s1, kit_ty s2, ?_⟩
    exact l _ _ w1 k _ [] H1 (.pur (.bl b) r.kp r.wok)
end
end Ev

set_option Elab.async false
set_option linter.all false
set_option maxRecDepth 100000
set_option maxHeartbeats 4000000
/-! # EvL: what loops and comprehensions walk -/
namespace PySem
open Sem (wp)
open AutoSeq1 (wpAny_loadPart')
set_option maxHeartbeats 1000000 in
/-- enumerate of one argument: its two new cells -/
theorem ev_enum1 {v : Value} {o : Obj} {Hb : Heap → Prop} (B : Begins v o Hb) :
    Meets (Builtin.«enumerate.__new__» ⟨[.type "enumerate", v], []⟩) (fun _ R s => Hb s.heap ∧
      R (.ok (.ret (.ref (s.heap.push o).objs.size)))
        { s with heap := (s.heap.push o).push { cls := .type "enumerate", data := .fields #[.none, .bool false, .ref s.heap.objs.size, rawInt 0, .none, .none] } }) := by
  refine .of_wp fun prog w A R s h => ?_
  obtain ⟨hp, g, d, tk, os⟩ := s
  obtain ⟨h1, h⟩ := h
  have hsub := sub_enumerate
  have begins : ∀ {A' : Around} {E Q : Value → Shared → Prop}, Q (.ref hp.objs.size) ⟨hp.push o, g, d, tk, os⟩ → wpAny (model prog w) A' (pyIter v) Q E ⟨hp, g, d, tk, os⟩ := by
    intro A' E Q q
    exact B.iter prog w _ _ ⟨hp, g, d, tk, os⟩ _ h1 q
  wp_walk using begins
  refine wpAny_stack_any fun st => wpAny_pure ?_
  split
  · rename_i c' _ _ _ _ _
    cases (c' == Value.type "enumerate") <;> (wp_walk using begins; exact ⟨_, rfl, h⟩)
  · wp_walk using begins
    exact ⟨_, rfl, h⟩
theorem ev_enum_call {prog : Program} {w : World} {A : Around} {E : Value → Shared → Prop} {s : Shared} {v : Value} {o : Obj} {Hb : Heap → Prop} {Q : Value → Shared → Prop} (B : Begins v o Hb) (h1 : Hb s.heap)
    (h : ∀ h', IsEnum h' (s.heap.objs.size + 1) s.heap.objs.size 0 .none → h'.get? s.heap.objs.size = some o →
      (∀ b o, s.heap.get? b = some o → h'.get? b = some o) → Q (.ref (s.heap.objs.size + 1)) { s with heap := h' }) :
    wpAny (model prog w) A (call (.type "enumerate") [v]) Q E s := by
  have size1 : (s.heap.push o).objs.size = s.heap.objs.size + 1 := Heap.size_push ..
  refine callType_new F.called_enumerate (by decide) (F.typeCall_enumerate_1 _) (F.newCall_enumerate_1 _) (fun obj => F.args_object_init_2 obj _) F.entry_enumerate_new (ev_enum1 B) ⟨h1, ?_⟩
  show _ ∧ _
  have laid := Heap.get?_push_size (s.heap.push o) (o := { cls := .type "enumerate", data := .fields #[.none, .bool false, .ref s.heap.objs.size, rawInt 0, .none, .none] }) rfl
  rw [size1] at laid ⊢
  refine ⟨⟨_, laid, rfl⟩, h _ laid (Heap.get?_push_of_some _ (Heap.get?_push_size _ B.free)) fun b ob z => ?_⟩
  exact Heap.get?_push_of_some _ (Heap.get?_push_of_some _ z)
end PySem
namespace Ev
open PySem PySem.Spec PyProof.Rows L2

/-! ### a list (false), a tuple (true) -/
def SqB (K : PySem.W.Frag) (H : Hp) (b : Bool) (a : Addr) (xs : List V) : Prop := if b = true then SqT K H a xs else SqL K H a xs
def IsB (h : Heap) (b : Bool) (a : Addr) (its : Array Value) : Prop := if b = true then h.IsTuple a its else h.IsList a its
def IterB (h : Heap) (b : Bool) (it a : Addr) (i : Nat) : Prop := if b = true then h.IsTupleIter it a i else h.IsListIter it a i
def iterObj (b : Bool) (a : Addr) : Obj := { cls := .type (if b = true then "tuple_iterator" else "list_iterator"), data := .fields #[.ref a, .int 0 0] }
theorem beginsB (b : Bool) (a : Addr) (its : Array Value) : Begins (.ref a) (iterObj b a) (fun h => IsB h b a its) := by
  cases b
  · exact begins_list a its
  · exact begins_tuple a its
theorem drawsB {prog : Program} {w : World} {A : Around} (hh : A.handled = none) (b : Bool) (it a : Addr) (hne : a ≠ it) (its : Array Value) :
    Draws prog w A it [it, a] its.size (fun i v => its[i]? = some v) (fun i h => IterB h b it a i ∧ IsB h b a its) := by
  cases b
  · exact Draws.list hh it a hne its
  · exact Draws.tuple hh it a hne its
theorem iterB_new {h : Heap} {b : Bool} {it a : Addr} (e : h.get? it = some (iterObj b a)) : IterB h b it a 0 := by
  cases b
  · exact ⟨_, e, rfl, rfl⟩
  · exact ⟨_, e, rfl, rfl⟩
theorem iterB_obj {h : Heap} {b : Bool} {it a : Addr} {i : Nat} (st : IterB h b it a i) : ∃ o, h.get? it = some o ∧ ∀ v, o.data ≠ .cell v := by
  cases b
  · obtain ⟨o, e, c, d⟩ := st
    exact ⟨o, e, fun v z => by rw [d] at z; cases z⟩
  · obtain ⟨o, e, c, d⟩ := st
    exact ⟨o, e, fun v z => by rw [d] at z; cases z⟩
theorem iterB_at {h h' : Heap} {b : Bool} {it a : Addr} {i : Nat} (st : IterB h b it a i) (k : ∀ o, h.get? it = some o → h'.get? it = some o) : IterB h' b it a i := by
  cases b
  · obtain ⟨o, e, c, d⟩ := st
    exact ⟨o, k o e, c, d⟩
  · obtain ⟨o, e, c, d⟩ := st
    exact ⟨o, k o e, c, d⟩
section
variable {X : Cx} {pins : List (Addr × Obj)} {σ : L2.St} {H : Hp} {s : Shared} {b : Bool} {a : Addr} {xs ys : List V}
theorem seqB (I : Inv X pins σ H s) (h : SqB X.K H b a xs) : ∃ its : List Value, Vals xs its ∧ IsB s.heap b a its.toArray ∧ xs.length ≤ sizeLine ∧ a < s.heap.objs.size := by
  cases b
  · obtain ⟨its, r, p, z⟩ := I.list h
    exact ⟨its, r, p.isList, z, p.lt⟩
  · obtain ⟨its, r, p, z⟩ := I.tuple h
    exact ⟨its, r, p, z, p.lt⟩
theorem seqB_inj (I : Inv X pins σ H s) (h : SqB X.K H b a xs) (h' : SqB X.K H b a ys) : xs = ys := by
  cases b
  · exact I.list_inj h h'
  · exact I.tuple_inj h h'
end

/-! ### enumerate -/
def ItE (K : PySem.W.Frag) (b : Bool) (a : Addr) : It :=
  ⟨fun i H => ∃ xs : List V, SqB K H b a xs ∧ i < xs.length, fun i H v H' => ∃ T x, v = .ref T ∧ H T = none ∧ H' = upd H T (.tup [.int (i : Nat), x]) ∧ ∀ xs, SqB K H b a xs → xs[i]? = some x,
    fun i H => ∃ xs : List V, SqB K H b a xs ∧ i = xs.length⟩
/-- the state of an enumeration, its own two cells -/
def StE (b : Bool) (a e it : Addr) (i : Nat) (h : Heap) : Prop := (∃ old, IsEnum h e it ((0 : Int) + (i : Int)) old) ∧ IterB h b it a i ∧ e ≠ it ∧ a ≠ e ∧ a ≠ it
theorem turnE {P : Program} {w : World} {K : PySem.W.Frag} {elts : List Expr} {kk : Nat} {tpos : Pos} (b : Bool) (a e it : Addr) : Turn P w K (.Tuple elts kk tpos) (ItE K b a) [e, it] e (StE b a e it) where
  mem := by simp
  obj := by
    intro i h st c hc
    obtain ⟨⟨old, he⟩, hi, _⟩ := st
    rcases List.mem_cons.mp hc with z | z
    · rw [z]
      exact ⟨_, he, fun v q => nomatch q⟩
    · rw [List.mem_singleton.mp z]
      exact iterB_obj hi
  keep := by
    intro i h h' st k
    obtain ⟨⟨old, he⟩, hi, n⟩ := st
    exact ⟨⟨old, k e (by simp) _ he⟩, iterB_at hi (k it (by simp)), n⟩
  item := by
    intro Y hP hw hK hc i pins s σ H E I hf st hg
    subst hP hw hK
    obtain ⟨he, hi, n1, n2, n3⟩ := st
    obtain ⟨xs, hq, hlt⟩ := hg
    obtain ⟨its, rv, hs, hz, hl⟩ := seqB I hq
    have D := drawsB (prog := Y.prog) (w := Y.w) (A := Y.A.in1) (I.ok.hd hc) b it a n3 its.toArray
    have G := GoesN.enumFrom (elts := elts) (x1 := kk) (pos := tpos) 0 D e n1 (by simp [n1, Ne.symm n2]) (by simp)
    have hlen : i < its.toArray.size := by rw [List.size_toArray, ← rv.length]; exact hlt
    refine wpAny_mono (G.goes i s (fun u s2 => ∃ x H', Inv Y pins σ H' s2 ∧ RelV x u ∧ (ItE Y.K b a).yld i H x H' ∧ StE b a e it (i + 1) s2.heap ∧ ∀ c ∈ [e, it], H' c = none) E hlen ⟨he, hi, hs⟩ ?_) (fun r s1 h => h) (fun _ _ z => z)
    intro v h' tk hY st' keep _
    obtain ⟨T, t, u, rfl, hT, hu, hTT⟩ := hY
    obtain ⟨he', hi', _⟩ := st'
    have hu' : its[i]? = some u := by simpa using hu
    have hx : xs[i]? = some xs[i] := List.getElem?_eq_getElem hlt
    obtain ⟨u2, e2, ru⟩ := rv.get hx
    rw [hu'] at e2
    cases e2
    have new : ObjOk Y.prog Y.w (upd H T (.tup [.int (i : Nat), xs[i]])) h' T (.tup [.int (i : Nat), xs[i]]) :=
      ⟨by show 2 ≤ sizeLine; decide, [.int ((0 : Int) + (i : Int)) t, u], .cons ⟨t, by rw [Int.zero_add]⟩ (.cons ru .nil), hTT⟩
    have I1 := I.turnedNew (t' := tk) (ch := [e, it]) keep hf hT new
    have nT : ∀ c ∈ [e, it], c ≠ T := fun c hcm z => by
      have : c < s.heap.objs.size := by
        rcases List.mem_cons.mp hcm with q | q
        · rw [q]; obtain ⟨old, he⟩ := he; exact Heap.lt_size he
        · rw [List.mem_singleton.mp q]; obtain ⟨o, ho, _⟩ := iterB_obj hi; exact Heap.lt_size ho
      rw [z] at this
      exact absurd (Nat.lt_of_lt_of_le this hT) (Nat.lt_irrefl _)
    refine ⟨.ref T, _, I1, rfl, ⟨T, xs[i], rfl, I.hok.fresh hT, rfl, fun ys hy => ?_⟩, ⟨he', hi', n1, n2, n3⟩, fun c hcm => ?_⟩
    · rw [seqB_inj I hy hq]; exact hx
    · rw [upd_ne (nT c hcm)]
      exact (hf c hcm).1
  done := by
    intro Y hP hw hK hc i pins s σ H E I hf st hg
    subst hP hw hK
    obtain ⟨he, hi, n1, n2, n3⟩ := st
    obtain ⟨xs, hq, hlt⟩ := hg
    obtain ⟨its, rv, hs, hz, hl⟩ := seqB I hq
    have D := drawsB (prog := Y.prog) (w := Y.w) (A := Y.A.in1) (I.ok.hd hc) b it a n3 its.toArray
    have G := GoesN.enumFrom (elts := elts) (x1 := kk) (pos := tpos) 0 D e n1 (by simp [n1, Ne.symm n2]) (by simp)
    have hlen : i = its.toArray.size := by rw [List.size_toArray, ← rv.length]; exact hlt
    subst hlen
    exact G.stops s (fun s1 => Inv Y pins σ H s1) E ⟨he, hi, hs⟩ fun h' tk keep _ => I.turnedL (ch := [e, it]) keep hf
  self := by
    intro A i s Q E st h
    obtain ⟨⟨_, he⟩, _⟩ := st
    exact wpAny_pyIter_enum he h
theorem boot_enu : bootBuiltins "enumerate" = some (.type "enumerate") := by decide +kernel
theorem piE {X : Cx} {e : Expr} {te : TE} {p pos tpos : Pos} {elts : List Expr} {kk : Nat} (hg : Gl X "enumerate") (hm : X.mg "enumerate" = none) (he : PE X e te) (hs : noStar e = true) :
    PI X (.Tuple elts kk tpos) (.Call (.Name "enumerate" p) [e] [] pos) (fun σ H R => te σ H fun x H1 => ∃ a b xs, x = .ref a ∧ SqB X.K H1 b a xs ∧ R (ItE X.K b a) H1) := by
  constructor
  intro pins s σ H R I h
  have pa : PA X [e] (tCons te tNil) := pa_cons he pa_nil (star_cons hs)
  refine Call_ ?_
  refine ld_blt I hg hm boot_enu ?_ (by decide +kernel) (by decide +kernel)
  refine PyProof.Rows.callWith_type1 ?_ (star_cons hs) (star_plain rfl)
  refine thn (pa.run pos pins s σ H (fun vs H1 => ∃ x, vs = [x] ∧ ∃ a b xs, x = .ref a ∧ SqB X.K H1 b a xs ∧ R (ItE X.K b a) H1) I (by
    show te σ H fun x H1 => ∃ y, [x] = [y] ∧ ∃ a b xs, y = .ref a ∧ SqB X.K H1 b a xs ∧ R (ItE X.K b a) H1
    have e0 : (fun x H1 => ∃ y, [x] = [y] ∧ ∃ a b xs, y = V.ref a ∧ SqB X.K H1 b a xs ∧ R (ItE X.K b a) H1) = (fun x H1 => ∃ a b xs, x = V.ref a ∧ SqB X.K H1 b a xs ∧ R (ItE X.K b a) H1) := by
      funext x H1
      refine propext ⟨fun ⟨y, e1, q⟩ => ?_, fun q => ⟨x, rfl, q⟩⟩
      cases e1
      exact q
    rw [e0]
    exact h)) ?_
  rintro us s1 ⟨vs, H1, I1, r1, x, rfl, a, b, xs, rfl, hq, q⟩
  obtain ⟨u, rfl, ru⟩ := vals1 r1
  cases ru
  obtain ⟨its, rv, hs1, hz, hl⟩ := seqB I1 hq
  refine ev_enum_call (beginsB b a its.toArray) hs1 fun h' he' hi' hk => wpAny_pyIter_enum he' ?_
  refine ⟨s1.heap.objs.size + 1, [s1.heap.objs.size + 1, s1.heap.objs.size], _, _, H1, rfl, I1.kept (t' := s1.toks) hk, turnE b a _ _, ⟨⟨.none, he'⟩, iterB_new hi', Nat.succ_ne_self _, ?_, ?_⟩, fun c hcm => ?_, q⟩
  · exact fun z => by rw [z] at hl; exact absurd (Nat.lt_of_succ_lt hl) (Nat.lt_irrefl _)
  · exact fun z => by rw [z] at hl; exact absurd hl (Nat.lt_irrefl _)
  · have hle : s1.heap.objs.size ≤ c := by
      rcases List.mem_cons.mp hcm with z | z
      · rw [z]; exact Nat.le_succ _
      · rw [List.mem_singleton.mp z]; exact Nat.le_refl _
    exact I1.fpOk hle (I1.hok.fresh hle)
end Ev

set_option Elab.async false
set_option linter.all false
set_option maxRecDepth 100000
set_option maxHeartbeats 4000000
/-! # EvM: zip; sequences and ranges walked; the reading of what is walked -/
namespace Ev
open PySem PySem.Spec PyProof.Rows L2

def ItZ (K : PySem.W.Frag) (b1 b2 : Bool) (a1 a2 : Addr) : It :=
  ⟨fun i H => ∃ xs ys : List V, SqB K H b1 a1 xs ∧ SqB K H b2 a2 ys ∧ i < min xs.length ys.length,
    fun i H v H' => ∃ T x y, v = .ref T ∧ H T = none ∧ H' = upd H T (.tup [x, y]) ∧ (∀ xs, SqB K H b1 a1 xs → xs[i]? = some x) ∧ ∀ ys, SqB K H b2 a2 ys → ys[i]? = some y,
    fun i H => ∃ xs ys : List V, SqB K H b1 a1 xs ∧ SqB K H b2 a2 ys ∧ i = min xs.length ys.length⟩
structure ZN (a1 a2 z TI TO i1 i2 : Addr) : Prop where
  sep : ZipSep2 z TI TO i1 i2 [i1, a1] [i2, a2]
  n1 : a1 ≠ i1
  n2 : a2 ≠ i2
def StZ (b1 b2 : Bool) (a1 a2 z TI TO i1 i2 : Addr) (i : Nat) (h : Heap) : Prop :=
  IsZip h z TI TO .none ∧ IsTupOf2 h TI (.ref i1) (.ref i2) ∧ (∃ u v, IsTupOf2 h TO u v) ∧ IterB h b1 i1 a1 i ∧ IterB h b2 i2 a2 i
theorem turnZ {P : Program} {w : World} {K : PySem.W.Frag} {elts : List Expr} {kk : Nat} {tpos : Pos} (b1 b2 : Bool) {a1 a2 z TI TO i1 i2 : Addr} (N : ZN a1 a2 z TI TO i1 i2) :
    Turn P w K (.Tuple elts kk tpos) (ItZ K b1 b2 a1 a2) [z, TI, TO, i1, i2] z (StZ b1 b2 a1 a2 z TI TO i1 i2) where
  mem := by simp
  obj := by
    intro i h st c hc
    obtain ⟨hz, hTI, ⟨u, v, hTO⟩, h1, h2⟩ := st
    have hc' : c = z ∨ c = TI ∨ c = TO ∨ c = i1 ∨ c = i2 := by simpa using hc
    rcases hc' with q | q | q | q | q <;> subst q
    · exact ⟨_, hz, fun v q => nomatch q⟩
    · exact ⟨_, hTI, fun v q => nomatch q⟩
    · exact ⟨_, hTO, fun v q => nomatch q⟩
    · exact iterB_obj h1
    · exact iterB_obj h2
  keep := by
    intro i h h' st k
    obtain ⟨hz, hTI, ⟨u, v, hTO⟩, h1, h2⟩ := st
    exact ⟨k z (by simp) _ hz, k TI (by simp) _ hTI, ⟨u, v, k TO (by simp) _ hTO⟩, iterB_at h1 (k i1 (by simp)), iterB_at h2 (k i2 (by simp))⟩
  item := by
    intro Y hP hw hK hc i pins s σ H E I hf st hg
    subst hP hw hK
    obtain ⟨hz, hTI, hTO, h1, h2⟩ := st
    obtain ⟨xs, ys, hq1, hq2, hlt⟩ := hg
    obtain ⟨its1, rv1, s1, _, _⟩ := seqB I hq1
    obtain ⟨its2, rv2, s2, _, _⟩ := seqB I hq2
    have hh := I.ok.hd hc
    have G := GoesN.zip2 (elts := elts) (x1 := kk) (pos := tpos) N.sep (drawsB (prog := Y.prog) (w := Y.w) (A := Y.A.in1) hh b1 i1 a1 N.n1 its1.toArray) (drawsB (prog := Y.prog) (w := Y.w) (A := Y.A.in1) hh b2 i2 a2 N.n2 its2.toArray)
    have l1 := rv1.length
    have l2 := rv2.length
    have hlen : i < min its1.toArray.size its2.toArray.size := by simp only [List.size_toArray]; omega
    refine wpAny_mono (G.goes i s (fun u sB => ∃ x H', Inv Y pins σ H' sB ∧ RelV x u ∧ (ItZ Y.K b1 b2 a1 a2).yld i H x H' ∧ StZ b1 b2 a1 a2 z TI TO i1 i2 (i + 1) sB.heap ∧ ∀ c ∈ [z, TI, TO, i1, i2], H' c = none) E hlen ⟨hz, hTI, hTO, ⟨h1, s1⟩, ⟨h2, s2⟩⟩ ?_) (fun r sB h => h) (fun _ _ q => q)
    intro v h' tk hY st' keep _
    obtain ⟨T, u1, u2, rfl, hT, hu1, hu2, hTT⟩ := hY
    obtain ⟨hz', hTI', hTO', ⟨h1', _⟩, ⟨h2', _⟩⟩ := st'
    have lt1 : i < xs.length := by omega
    have lt2 : i < ys.length := by omega
    have hx : xs[i]? = some xs[i] := List.getElem?_eq_getElem lt1
    have hy : ys[i]? = some ys[i] := List.getElem?_eq_getElem lt2
    obtain ⟨w1, e1, r1⟩ := rv1.get hx
    obtain ⟨w2, e2, r2⟩ := rv2.get hy
    have f1 : its1[i]? = some u1 := by simpa using hu1
    have f2 : its2[i]? = some u2 := by simpa using hu2
    rw [f1] at e1; cases e1
    rw [f2] at e2; cases e2
    have new : ObjOk Y.prog Y.w (upd H T (.tup [xs[i], ys[i]])) h' T (.tup [xs[i], ys[i]]) := ⟨by show 2 ≤ sizeLine; decide, [u1, u2], .cons r1 (.cons r2 .nil), hTT⟩
    have kk' : ∀ c o, c ∉ [z, TI, TO, i1, i2] → s.heap.get? c = some o → h'.get? c = some o := fun c o n q => keep c o (fun m => n (by
      have m' : c = z ∨ c = TO ∨ c = i1 ∨ c = i2 := by simpa using m
      rcases m' with m' | m' | m' | m' <;> simp [m'])) q
    have I1 := I.turnedNew (t' := tk) (ch := [z, TI, TO, i1, i2]) kk' hf hT new
    refine ⟨.ref T, _, I1, rfl, ⟨T, xs[i], ys[i], rfl, I.hok.fresh hT, rfl, fun l hl => by rw [seqB_inj I hl hq1]; exact hx, fun l hl => by rw [seqB_inj I hl hq2]; exact hy⟩, ⟨hz', hTI', hTO', h1', h2'⟩, fun c hcm => ?_⟩
    have hlt' : c < s.heap.objs.size := by
      have m' : c = z ∨ c = TI ∨ c = TO ∨ c = i1 ∨ c = i2 := by simpa using hcm
      rcases m' with m' | m' | m' | m' | m' <;> subst m'
      · exact Heap.lt_size hz
      · exact Heap.lt_size hTI
      · obtain ⟨u, v, hTO⟩ := hTO; exact Heap.lt_size hTO
      · obtain ⟨o, ho, _⟩ := iterB_obj h1; exact Heap.lt_size ho
      · obtain ⟨o, ho, _⟩ := iterB_obj h2; exact Heap.lt_size ho
    rw [upd_ne (fun q => by rw [q] at hlt'; exact absurd (Nat.lt_of_lt_of_le hlt' hT) (Nat.lt_irrefl _))]
    exact (hf c hcm).1
  done := by
    intro Y hP hw hK hc i pins s σ H E I hf st hg
    subst hP hw hK
    obtain ⟨hz, hTI, hTO, h1, h2⟩ := st
    obtain ⟨xs, ys, hq1, hq2, hlt⟩ := hg
    obtain ⟨its1, rv1, s1, _, _⟩ := seqB I hq1
    obtain ⟨its2, rv2, s2, _, _⟩ := seqB I hq2
    have hh := I.ok.hd hc
    have G := GoesN.zip2 (elts := elts) (x1 := kk) (pos := tpos) N.sep (drawsB (prog := Y.prog) (w := Y.w) (A := Y.A.in1) hh b1 i1 a1 N.n1 its1.toArray) (drawsB (prog := Y.prog) (w := Y.w) (A := Y.A.in1) hh b2 i2 a2 N.n2 its2.toArray)
    have l1 := rv1.length
    have l2 := rv2.length
    have hlen : i = min its1.toArray.size its2.toArray.size := by simp only [List.size_toArray]; omega
    subst hlen
    refine G.stops s (fun s1 => Inv Y pins σ H s1) E ⟨hz, hTI, hTO, ⟨h1, s1⟩, ⟨h2, s2⟩⟩ fun h' tk keep _ => I.turnedL (ch := [z, TI, TO, i1, i2]) (fun c o n q => keep c o (fun m => n ?_) q) hf
    have m' : c = z ∨ c = TO ∨ c = i1 ∨ c = i2 := by simpa using m
    rcases m' with m' | m' | m' | m' <;> simp [m']
  self := by
    intro A i s Q E st h
    exact wpAny_pyIter_zip st.1 h
theorem boot_zp : bootBuiltins "zip" = some (.type "zip") := by decide +kernel
theorem piZ {X : Cx} {e e2 : Expr} {t : TA} {p pos tpos : Pos} {elts : List Expr} {kk : Nat} (hg : Gl X "zip") (hm : X.mg "zip" = none) (pa : PA X [e, e2] t) (hs : noStar e = true) (hs2 : noStar e2 = true) :
    PI X (.Tuple elts kk tpos) (.Call (.Name "zip" p) [e, e2] [] pos) (fun σ H R => t σ H fun vs H1 => ∃ a1 a2 b1 b2 xs ys, vs = [.ref a1, .ref a2] ∧ SqB X.K H1 b1 a1 xs ∧ SqB X.K H1 b2 a2 ys ∧ R (ItZ X.K b1 b2 a1 a2) H1) := by
  constructor
  intro pins s σ H R I h
  refine Call_ ?_
  refine ld_blt I hg hm boot_zp ?_ (by decide +kernel) (by decide +kernel)
  refine PyProof.Rows.callWith_type1 ?_ (star_cons hs) (star_plain (by simp [hs2]))
  refine thn (pa.run pos pins s σ H _ I h) ?_
  rintro us s1 ⟨vs, H1, I1, r1, a1, a2, b1, b2, xs, ys, rfl, hq1, hq2, q⟩
  obtain ⟨u1, u2, rfl, ru1, ru2⟩ := vals2 r1
  cases ru1
  cases ru2
  obtain ⟨its1, rv1, s1', _, l1⟩ := seqB I1 hq1
  obtain ⟨its2, rv2, s2', _, l2⟩ := seqB I1 hq2
  refine zip_begins2 (beginsB b1 a1 its1.toArray) (beginsB b2 a2 its2.toArray) s1' s2' fun h' hz hTI hTO h1 h2 _ hk => wpAny_pyIter_zip hz ?_
  have sep := zip_sep2 (N := s1.heap.objs.size) (fp1 := [a1]) (fp2 := [a2]) (fun c hc => by rw [List.mem_singleton.mp hc]; exact l1) (fun c hc => by rw [List.mem_singleton.mp hc]; exact l2)
  have n1 : a1 ≠ s1.heap.objs.size := Nat.ne_of_lt l1
  have n2 : a2 ≠ s1.heap.objs.size + 1 := Nat.ne_of_lt (Nat.lt_succ_of_lt l2)
  refine ⟨s1.heap.objs.size + 4, [s1.heap.objs.size + 4, s1.heap.objs.size + 2, s1.heap.objs.size + 3, s1.heap.objs.size, s1.heap.objs.size + 1], _, _, H1, rfl, I1.kept (t' := s1.toks) hk, turnZ b1 b2 ⟨sep, n1, n2⟩, ⟨hz, hTI, ⟨_, _, hTO⟩, iterB_new h1, iterB_new h2⟩, fun c hcm => ?_, q⟩
  have hle : s1.heap.objs.size ≤ c := by
    have m' : c = s1.heap.objs.size + 4 ∨ c = s1.heap.objs.size + 2 ∨ c = s1.heap.objs.size + 3 ∨ c = s1.heap.objs.size ∨ c = s1.heap.objs.size + 1 := by simpa using hcm
    rcases m' with m' | m' | m' | m' | m' <;> subst m'
    · exact Nat.le_add_right _ 4
    · exact Nat.le_add_right _ 2
    · exact Nat.le_add_right _ 3
    · exact Nat.le_refl _
    · exact Nat.le_add_right _ 1
  exact I1.fpOk hle (I1.hok.fresh hle)

/-! ### a sequence walked -/
def ItS (K : PySem.W.Frag) (b : Bool) (a : Addr) : It := if b = true then Itt K a else Itl K a
theorem piS {X : Cx} {tg e : Expr} {te : TE} (he : PE X e te) : PI X tg e (fun σ H R => te σ H fun x H1 => ∃ a b xs, x = .ref a ∧ SqB X.K H1 b a xs ∧ R (ItS X.K b a) H1) := by
  constructor
  intro pins s σ H R I h
  refine thn (he.run pins s σ H _ I h) ?_
  rintro v s1 ⟨x, H1, I1, r1, a, b, xs, rfl, hq, q⟩
  cases r1
  obtain ⟨its, rv, hs, hz, hl⟩ := seqB I1 hq
  refine (beginsB b a its.toArray).iter X.prog X.w X.A X.xe s1 _ hs ?_
  have new : IterB (s1.heap.push (iterObj b a)) b s1.heap.objs.size a 0 := iterB_new (Heap.get?_push_size _ (beginsB b a its.toArray).free)
  cases b
  · exact pi_one (tk := s1.toks) I1 (iterObj false a) (turn_list a _) new q
  · exact pi_one (tk := s1.toks) I1 (iterObj true a) (turn_tuple a _) new q

/-! ### the reading of what is walked -/
/-- it gives these trees; m: the lists that it hands out or walks -/
def ItOk (c : Kx) (Wo : Option Addr) (J : It) (ds : List D) (m : List Addr) (H : Hp) : Prop :=
  ∃ G, Walk J ds.length G (fun i H x H' => ∃ d n1, ds[i]? = some d ∧ Kp [] H H' ∧ Rp c.toKn Wo H' x d n1 ∧ ∀ a ∈ n1, a ∈ m) ∧ G H ∧ ∀ S H1 H2, G H1 → Kp S H1 H2 → Ls H1 S → (∀ a ∈ m, a ∉ S) → G H2
def SI (c : Kx) (X : Cx) (Wx : WX) (tg it : Expr) (fv : List Nat) (P : Slots → Wl → (List D → Wl → Prop) → XQ → Prop) : Prop :=
  ∃ wi, PI X tg it wi ∧ ∀ Wo nf ρ w σ H (K : List D → Wl → Prop) E (R : It → Hp → Prop), SimE c.toKn Wo nf ρ w σ H →
    (∀ ds w', K ds w' → ∀ J m H', ItOk c Wo J ds m H' → Kp (Ws Wo) H H' → WOk c.toKn Wo w' H' → (∀ a ∈ m, H a = none ∨ ∃ i ∈ fv, Lv ρ i ∧ a ∈ nf i) → (∀ a ∈ m, (∃ xs, H' a = some (.lst xs)) ∧ a ∉ Ws Wo) → R J H') → LiftX c Wo nf ρ σ H E Wx → P ρ w K E → wi σ H R
section
variable {c : Kx} {X : Cx} {Wx : WX} {T : Tab} {e a b : Expr} {es : List Expr} {fv fv1 fv2 : List Nat} {p pos tpos : Pos} {x y : Ex} {xs : Exs} {tg : Expr} {elts : List Expr} {kk : Nat}
theorem seqB_det {K : PySem.W.Frag} {H : Hp} {d : D} {ds : List D} {Wo : Option Addr} {v : V} {ns : List Addr} {a : Addr} {b : Bool} (hd : (∃ q, d = .tup q) ↔ b = true) (r : Rp c.toKn Wo H (.ref a) d ns) (h : items d = some ds) : ∃ xs m, SqB c.K H b a xs ∧ RpA c.toKn Wo H xs ds m ∧ ∀ z ∈ m, z ∈ ns := by
  cases d with
  | tup q =>
    cases h
    have : b = true := hd.mp ⟨_, rfl⟩
    subst this
    cases r with
    | tup s r => exact ⟨_, _, s, r, fun _ h => h⟩
  | lst q =>
    cases h
    have : b = false := by
      cases b
      · rfl
      · obtain ⟨_, z⟩ := hd.mpr rfl; cases z
    subst this
    cases r with
    | lst s w r => exact ⟨_, _, SqL.of s, r, fun _ h => List.mem_cons_of_mem _ h⟩
  | fz q =>
    cases h
    have : b = false := by
      cases b
      · rfl
      · obtain ⟨_, z⟩ := hd.mpr rfl; cases z
    subst this
    cases r with
    | lsf s r => exact ⟨_, _, s.sq, r, fun _ h => h⟩
  | _ => simp [items] at h
/-- whether a tree is a tuple -/
def D.isT : D → Bool
  | .tup _ => true
  | _ => false
theorem D.isT_iff (d : D) : (∃ q, d = .tup q) ↔ d.isT = true := by
  cases d <;> simp [D.isT]
theorem ref_of {Wo : Option Addr} {H : Hp} {v : V} {d : D} {ds : List D} {ns : List Addr} (r : Rp c.toKn Wo H v d ns) (h : items d = some ds) : ∃ a, v = .ref a := by
  obtain ⟨a, _, _, rfl, _⟩ := seq_of (K := c.K) r h
  exact ⟨a, rfl⟩
theorem walkS {Wo : Option Addr} {H : Hp} {a : Addr} {d : D} {ds : List D} {ns : List Addr} (r : Rp c.toKn Wo H (.ref a) d ns) (h : items d = some ds) : ItOk c Wo (ItS c.K d.isT a) ds ns H := by
  refine ⟨fun H => Rp c.toKn Wo H (.ref a) d ns, ⟨fun i H hi g => ?_, fun H g => ?_, fun i H x H' hi g y => ?_⟩, r, fun S H1 H2 g k l n => g.keep d k l n⟩
  · obtain ⟨xs, m, s, rm, hm⟩ := seqB_det (K := c.K) (v := .ref a) d.isT_iff g h
    have hl : i < xs.length := by rw [rm.length]; exact hi
    cases q : d.isT <;> (rw [q] at s; exact ⟨xs, xs[i], s, List.getElem?_eq_getElem hl⟩)
  · obtain ⟨xs, m, s, rm, hm⟩ := seqB_det (K := c.K) (v := .ref a) d.isT_iff g h
    have hl : xs.length ≤ ds.length := by rw [rm.length]; exact Nat.le_refl _
    cases q : d.isT <;> (rw [q] at s; exact ⟨xs, s, hl⟩)
  · obtain ⟨xs, m, s, rm, hm⟩ := seqB_det (K := c.K) (v := .ref a) d.isT_iff g h
    obtain ⟨v, n1, g1, g2, g3⟩ := rm.get (List.getElem?_eq_getElem hi)
    have ex : H' = H ∧ xs[i]? = some x := by
      cases q : d.isT <;> (rw [q] at s y; exact ⟨y.1, y.2 xs s⟩)
    obtain ⟨rfl, ex⟩ := ex
    rw [g1] at ex
    cases ex
    exact ⟨_, n1, List.getElem?_eq_getElem hi, .refl, g2, fun z hz => hm z (g3 z hz)⟩
theorem enuD_length (ds : List D) : (enuD ds).length = ds.length := by simp [enuD]
theorem enuD_get {ds : List D} {i : Nat} {d : D} (h : ds[i]? = some d) : (enuD ds)[i]? = some (.tup [.int (i : Nat), d]) := by
  simp [enuD, h]
theorem walkE {Wo : Option Addr} {H : Hp} {a : Addr} {d : D} {ds : List D} {ns : List Addr} (r : Rp c.toKn Wo H (.ref a) d ns) (h : items d = some ds) : ItOk c Wo (ItE c.K d.isT a) (enuD ds) ns H := by
  refine ⟨fun H => Rp c.toKn Wo H (.ref a) d ns, ⟨fun i H hi g => ?_, fun H g => ?_, fun i H x H' hi g y => ?_⟩, r, fun S H1 H2 g k l n => g.keep d k l n⟩
  · obtain ⟨xs, m, s, rm, hm⟩ := seqB_det (K := c.K) (v := .ref a) d.isT_iff g h
    exact ⟨xs, s, by rw [rm.length]; rw [enuD_length] at hi; exact hi⟩
  · obtain ⟨xs, m, s, rm, hm⟩ := seqB_det (K := c.K) (v := .ref a) d.isT_iff g h
    exact ⟨xs, s, by rw [rm.length, enuD_length]⟩
  · rw [enuD_length] at hi
    obtain ⟨xs, m, s, rm, hm⟩ := seqB_det (K := c.K) (v := .ref a) d.isT_iff g h
    obtain ⟨v, n1, g1, g2, g3⟩ := rm.get (List.getElem?_eq_getElem hi)
    obtain ⟨T, z, rfl, nT, rfl, ex⟩ := y
    have e2 := ex xs s
    rw [g1] at e2
    cases e2
    refine ⟨_, n1, enuD_get (List.getElem?_eq_getElem hi), .new nT, ?_, fun z hz => hm z (g3 z hz)⟩
    have rr : RpA c.toKn Wo (upd H T (.tup [.int (i : Nat), v])) [.int (i : Nat), v] [.int (i : Nat), ds[i]] ([] ++ n1) := .cons (.int _) (.one (upd_rp g2 nT))
    exact .tup (SqT.of upd_same) (by simpa using rr)
theorem zipD_length (ds es : List D) : (zipD ds es).length = min ds.length es.length := by simp [zipD]
theorem zipD_get {ds es : List D} {i : Nat} {d e : D} (h : ds[i]? = some d) (h2 : es[i]? = some e) : (zipD ds es)[i]? = some (.tup [d, e]) := by
  have q : (ds.zip es)[i]? = some (d, e) := List.getElem?_zip_eq_some.mpr ⟨h, h2⟩
  simp [zipD, q]
theorem walkZ {Wo : Option Addr} {H : Hp} {a1 a2 : Addr} {d1 d2 : D} {ds es : List D} {n1 n2 : List Addr} (r1 : Rp c.toKn Wo H (.ref a1) d1 n1) (h1 : items d1 = some ds) (r2 : Rp c.toKn Wo H (.ref a2) d2 n2) (h2 : items d2 = some es) :
    ItOk c Wo (ItZ c.K d1.isT d2.isT a1 a2) (zipD ds es) (n1 ++ n2) H := by
  refine ⟨fun H => Rp c.toKn Wo H (.ref a1) d1 n1 ∧ Rp c.toKn Wo H (.ref a2) d2 n2, ⟨fun i H hi g => ?_, fun H g => ?_, fun i H x H' hi g y => ?_⟩, ⟨r1, r2⟩, fun S H1 H2 g k l n => ⟨g.1.keep d1 k l fun a ha => n a (by simp [ha]), g.2.keep d2 k l fun a ha => n a (by simp [ha])⟩⟩
  · obtain ⟨xs, m, s, rm, hm⟩ := seqB_det (K := c.K) (v := .ref a1) d1.isT_iff g.1 h1
    obtain ⟨ys, m2, s2, rm2, hm2⟩ := seqB_det (K := c.K) (v := .ref a2) d2.isT_iff g.2 h2
    exact ⟨xs, ys, s, s2, by rw [rm.length, rm2.length]; rw [zipD_length] at hi; exact hi⟩
  · obtain ⟨xs, m, s, rm, hm⟩ := seqB_det (K := c.K) (v := .ref a1) d1.isT_iff g.1 h1
    obtain ⟨ys, m2, s2, rm2, hm2⟩ := seqB_det (K := c.K) (v := .ref a2) d2.isT_iff g.2 h2
    exact ⟨xs, ys, s, s2, by rw [rm.length, rm2.length, zipD_length]⟩
  · rw [zipD_length] at hi
    obtain ⟨xs, m, s, rm, hm⟩ := seqB_det (K := c.K) (v := .ref a1) d1.isT_iff g.1 h1
    obtain ⟨ys, m2, s2, rm2, hm2⟩ := seqB_det (K := c.K) (v := .ref a2) d2.isT_iff g.2 h2
    obtain ⟨v, k1, g1, g2, g3⟩ := rm.get (List.getElem?_eq_getElem (show i < ds.length by omega))
    obtain ⟨u, k2, f1, f2, f3⟩ := rm2.get (List.getElem?_eq_getElem (show i < es.length by omega))
    obtain ⟨T, z1, z2, rfl, nT, rfl, ex1, ex2⟩ := y
    have e1 := ex1 xs s
    have e2 := ex2 ys s2
    rw [g1] at e1; cases e1
    rw [f1] at e2; cases e2
    refine ⟨_, k1 ++ k2, zipD_get (List.getElem?_eq_getElem (show i < ds.length by omega)) (List.getElem?_eq_getElem (show i < es.length by omega)), .new nT, ?_, fun z hz => ?_⟩
    · exact .tup (SqT.of upd_same) (.cons (upd_rp g2 nT) (.one (upd_rp f2 nT)))
    · rcases List.mem_append.mp hz with hz | hz
      · simp [hm z (g3 z hz)]
      · simp [hm2 z (f3 z hz)]
theorem rngD_length (lo : Int) (n : Nat) : (rngD lo n).length = n := by simp [rngD]
theorem walkR {Wo : Option Addr} {H : Hp} {lo : Int} {n : Nat} : ItOk c Wo (Itr lo n) (rngD lo n) [] H := by
  refine ⟨fun _ => True, ⟨fun i H hi _ => ?_, fun H _ => ?_, fun i H x H' hi _ y => ?_⟩, trivial, fun _ _ _ _ _ _ _ => trivial⟩
  · rw [rngD_length] at hi; exact hi
  · rw [rngD_length]; exact Nat.le_refl _
  · rw [rngD_length] at hi
    obtain ⟨rfl, rfl⟩ := y
    exact ⟨.int (lo + (i : Nat)), [], by simp [rngD, hi], .refl, .int _, fun a h => by simp at h⟩

theorem there_in {Wo : Option Addr} {H : Hp} {v : V} {d : D} {ns : List Addr} (r : Rp c.toKn Wo H v d ns) : ∀ a ∈ ns, (∃ xs, H a = some (.lst xs)) ∧ a ∉ Ws Wo := fun a ha =>
  ⟨(Rp.there d r a ha).1, noW r a ha⟩
theorem si_seq (hK : X.K = c.K) (h : SE c X Wx e fv (wE T x)) : SI c X Wx tg e fv (wI T (.seq x)) := by
  obtain ⟨t, ht, hd⟩ := h
  refine ⟨_, piS ht, fun Wo nf ρ w σ H K E R S l lx p => ?_⟩
  refine hd Wo nf ρ w σ H _ E _ S (fun d fr w1 k v n H1 r => ?_) lx p
  obtain ⟨ds, hi, k⟩ := asS_cases k
  obtain ⟨a, rfl⟩ := ref_of r.rp hi
  obtain ⟨xs, m, s, rm, hm⟩ := seqB_det (K := c.K) (v := .ref a) d.isT_iff r.rp hi
  refine ⟨a, d.isT, xs, rfl, by rw [hK]; exact s, ?_⟩
  rw [hK]
  exact l ds w1 k _ n H1 (walkS r.rp hi) r.kp r.wok r.org (there_in r.rp)
theorem si_enu (hK : X.K = c.K) (hg : Gl X "enumerate") (hm : X.mg "enumerate" = none) (h : SE c X Wx e fv (wE T x)) (hs : noStar e = true) : SI c X Wx (.Tuple elts kk tpos) (.Call (.Name "enumerate" p) [e] [] pos) fv (wI T (.enu x)) := by
  obtain ⟨t, ht, hd⟩ := h
  refine ⟨_, piE hg hm ht hs, fun Wo nf ρ w σ H K E R S l lx p => ?_⟩
  refine hd Wo nf ρ w σ H _ E _ S (fun d fr w1 k v n H1 r => ?_) lx p
  obtain ⟨ds, hi, k⟩ := asS_cases k
  obtain ⟨a, rfl⟩ := ref_of r.rp hi
  obtain ⟨xs, m, s, rm, hm⟩ := seqB_det (K := c.K) (v := .ref a) d.isT_iff r.rp hi
  refine ⟨a, d.isT, xs, rfl, by rw [hK]; exact s, ?_⟩
  rw [hK]
  exact l _ w1 k _ n H1 (walkE r.rp hi) r.kp r.wok r.org (there_in r.rp)
theorem si_zip (hK : X.K = c.K) (hg : Gl X "zip") (hm : X.mg "zip" = none) (h1 : SE c X Wx a fv1 (wE T x)) (h2 : SE c X Wx b fv2 (wE T y)) (hs : noStar a = true) (hs2 : noStar b = true) :
    SI c X Wx (.Tuple elts kk tpos) (.Call (.Name "zip" p) [a, b] [] pos) (fv1 ++ fv2) (wI T (.zip x y)) := by
  obtain ⟨t1, ht1, hd1⟩ := h1
  obtain ⟨t2, ht2, hd2⟩ := h2
  refine ⟨_, piZ hg hm (pa_cons ht1 (pa_cons ht2 pa_nil (star_cons hs2)) (star_cons hs)) hs hs2, fun Wo nf ρ w σ H K E R S l lx p => ?_⟩
  refine hd1 Wo nf ρ w σ H _ E _ S (fun d1 f1 w1 k1 v n1 H1 r1 => ?_) lx p
  refine hd2 Wo nf ρ w1 σ H1 _ E _ (r1.sim S) (fun d2 f2 w2 k2 u n2 H2 r2 => ?_) (lx.step r1.kp) k1
  obtain ⟨ds, hi, k2⟩ := asS_cases k2
  obtain ⟨es, hi2, k2⟩ := asS_cases k2
  have r1' := r1.later r2.kp r2.wok
  obtain ⟨a1, rfl⟩ := ref_of r1'.rp hi
  obtain ⟨a2, rfl⟩ := ref_of r2.rp hi2
  obtain ⟨xs, m, s, rm, hm⟩ := seqB_det (K := c.K) (v := .ref a1) d1.isT_iff r1'.rp hi
  obtain ⟨ys, m2, s2, rm2, hm2⟩ := seqB_det (K := c.K) (v := .ref a2) d2.isT_iff r2.rp hi2
  refine ⟨a1, a2, d1.isT, d2.isT, xs, ys, rfl, by rw [hK]; exact s, by rw [hK]; exact s2, ?_⟩
  rw [hK]
  refine l _ w2 k2 _ (n1 ++ n2) H2 (walkZ r1'.rp hi r2.rp hi2) (r1.kp.trans r2.kp) r2.wok (fun z hz => ?_) (fun z hz => ?_)
  · rcases List.mem_append.mp hz with hz | hz
    · exact (r1.org z hz).imp id fun ⟨i, hi, q⟩ => ⟨i, by simp [hi], q⟩
    · exact (r2.org z hz).imp (r1.kp.dom z) fun ⟨i, hi, q⟩ => ⟨i, by simp [hi], q⟩
  · rcases List.mem_append.mp hz with hz | hz
    · exact there_in r1'.rp z hz
    · exact there_in r2.rp z hz
theorem si_rng1 (hg : Gl X "range") (hm : X.mg "range" = none) (h : SE c X Wx e fv (wE T x)) (hs : noStar e = true) : SI c X Wx tg (.Call (.Name "range" p) [e] [] pos) fv (wI T (.rng (.cons x .nil))) := by
  obtain ⟨t, ht, hd⟩ := h
  refine ⟨_, pi_range1 hg hm (pa_cons ht pa_nil (star_cons hs)) (star_cons hs), fun Wo nf ρ w σ H K E R S l lx p => ?_⟩
  refine hd Wo nf ρ w σ H _ E _ S (fun d fr w1 k v n H1 r => ?_) lx p
  cases d with
  | int i =>
    have rp := r.rp
    cases rp
    obtain ⟨k1, k2, k3⟩ := k
    exact ⟨i, rfl, by omega, by omega, l _ w1 k3 _ [] H1 walkR r.kp r.wok (fun a h => by simp at h) (fun a h => by simp at h)⟩
  | _ => exact k.elim
theorem si_rng2 (hg : Gl X "range") (hm : X.mg "range" = none) (h1 : SE c X Wx a fv1 (wE T x)) (h2 : SE c X Wx b fv2 (wE T y)) (hs : noStar a = true) (hs2 : noStar b = true) : SI c X Wx tg (.Call (.Name "range" p) [a, b] [] pos) fv (wI T (.rng (.cons x (.cons y .nil)))) := by
  obtain ⟨t1, ht1, hd1⟩ := h1
  obtain ⟨t2, ht2, hd2⟩ := h2
  refine ⟨_, pi_range2 hg hm (pa_cons ht1 (pa_cons ht2 pa_nil (star_cons hs2)) (star_cons hs)) (by rw [star_cons hs, star_cons hs2]; rfl) (star_cons hs2), fun Wo nf ρ w σ H K E R S l lx p => ?_⟩
  refine hd1 Wo nf ρ w σ H _ E _ S (fun d1 f1 w1 k1 v n1 H1 r1 => ?_) lx p
  refine hd2 Wo nf ρ w1 σ H1 _ E _ (r1.sim S) (fun d2 f2 w2 k2 u n2 H2 r2 => ?_) (lx.step r1.kp) k1
  have rp1 := r1.rp
  have rp2 := r2.rp
  cases d1 with
  | int i =>
    cases d2 with
    | int j =>
      cases rp1
      cases rp2
      obtain ⟨k3, k4⟩ := k2
      exact ⟨i, j, rfl, by omega, l _ w2 k4 _ [] H2 walkR (r1.kp.trans r2.kp) r2.wok (fun a h => by simp at h) (fun a h => by simp at h)⟩
    | _ => exact k2.elim
  | _ => exact k2.elim
theorem walkB {Wo : Option Addr} {H : Hp} {lo : Int} {n : Nat} : ItOk c Wo (Itc lo (-1) n) (rnbD lo n) [] H := by
  have hl : (rnbD lo n).length = n := by simp [rnbD]
  refine ⟨fun _ => True, ⟨fun i H hi _ => ?_, fun H _ => ?_, fun i H x H' hi _ y => ?_⟩, trivial, fun _ _ _ _ _ _ _ => trivial⟩
  · rw [hl] at hi; exact hi
  · rw [hl]; exact Nat.le_refl _
  · rw [hl] at hi
    obtain ⟨rfl, rfl⟩ := y
    exact ⟨.int (lo + (i : Nat) * (-1)), [], by simp [rnbD, hi], .refl, .int _, fun a h => by simp at h⟩
theorem si_rng3 {fv3 : List Nat} {d' : Expr} {z : Ex} (hg : Gl X "range") (hm : X.mg "range" = none) (h1 : SE c X Wx a fv1 (wE T x)) (h2 : SE c X Wx b fv2 (wE T y)) (h3 : SE c X Wx d' fv3 (wE T z)) (hs : noStar a = true) (hs2 : noStar b = true) (hs3 : noStar d' = true) :
    SI c X Wx tg (.Call (.Name "range" p) [a, b, d'] [] pos) fv (wI T (.rng (.cons x (.cons y (.cons z .nil))))) := by
  obtain ⟨t1, ht1, hd1⟩ := h1
  obtain ⟨t2, ht2, hd2⟩ := h2
  obtain ⟨t3, ht3, hd3⟩ := h3
  refine ⟨_, pi_range3 hg hm (pa_cons ht1 (pa_cons ht2 (pa_cons ht3 pa_nil (star_cons hs3)) (star_cons hs2)) (star_cons hs)) (by rw [star_cons hs, star_cons hs2, star_cons hs3]) (by rw [star_cons hs2, star_cons hs3]; rfl), fun Wo nf ρ w σ H K E R S l lx p => ?_⟩
  refine hd1 Wo nf ρ w σ H _ E _ S (fun d1 f1 w1 k1 v n1 H1 r1 => ?_) lx p
  refine hd2 Wo nf ρ w1 σ H1 _ E _ (r1.sim S) (fun d2 f2 w2 k2 u n2 H2 r2 => ?_) (lx.step r1.kp) k1
  refine hd3 Wo nf ρ w2 σ H2 _ E _ (r2.sim (r1.sim S)) (fun d3 f3 w3 k3 t n3 H3 r3 => ?_) (lx.step (r1.kp.trans r2.kp)) k2
  have rp1 := r1.rp
  have rp2 := r2.rp
  have rp3 := r3.rp
  cases d1 with
  | int i =>
    cases d2 with
    | int j =>
      cases d3 with
      | int m =>
        cases rp1
        cases rp2
        cases rp3
        obtain ⟨⟨rfl, k3⟩, k4⟩ := k3
        exact ⟨i, j, -1, (i - j).toNat, rfl, RgC.neg (by omega) (by omega) (by omega) (by omega), l _ w3 k4 _ [] H3 walkB ((r1.kp.trans r2.kp).trans r3.kp) r3.wok (fun a h => by simp at h) (fun a h => by simp at h)⟩
      | _ => exact k3.elim
    | _ => exact k3.elim
  | _ => exact k3.elim
end
end Ev

set_option Elab.async false
set_option linter.all false
set_option maxRecDepth 100000
set_option maxHeartbeats 4000000
/-! # EvN: targets, comprehensions -/
namespace Ev
open PySem PySem.Spec PyProof.Rows L2

/-! ### wiping -/
theorem wipeS_length (ρ : Slots) : ∀ vs : List Nat, (wipeS ρ vs).length = ρ.length
  | [] => rfl
  | v :: vs => by unfold wipeS; rw [List.length_set, wipeS_length ρ vs]
theorem wipeS_some {ρ : Slots} {i : Nat} {x : D × Nat} : ∀ {vs : List Nat}, (wipeS ρ vs)[i]? = some (some x) → ρ[i]? = some (some x) ∧ i ∉ vs
  | [], h => ⟨h, by simp⟩
  | v :: vs, h => by
    unfold wipeS at h
    by_cases hi : v = i
    · subst hi
      by_cases hv : v < (wipeS ρ vs).length
      · rw [List.getElem?_set_self hv] at h; cases h
      · rw [List.getElem?_eq_none (by simpa using hv)] at h; cases h
    · rw [List.getElem?_set_ne hi] at h
      obtain ⟨h1, h2⟩ := wipeS_some h
      exact ⟨h1, by simp only [List.mem_cons, not_or]; exact ⟨fun e => hi e.symm, h2⟩⟩
theorem wipe_get {σ : L2.St} {vs : List Nat} {i : Nat} : (wipe σ vs)[i]? = if i ∈ vs ∧ i < σ.length then some none else σ[i]? := by
  induction vs with
  | nil => simp [wipe]
  | cons v vs ih =>
    unfold wipe
    by_cases hv : v = i
    · subst hv
      by_cases hl : v < σ.length
      · rw [List.getElem?_set_self (by rw [wipe_length]; exact hl), if_pos ⟨by simp, hl⟩]
      · rw [List.getElem?_eq_none (by rw [List.length_set, wipe_length]; omega), if_neg (fun z => hl z.2), List.getElem?_eq_none (by omega)]
    · rw [List.getElem?_set_ne hv, ih]
      by_cases hl : i ∈ vs ∧ i < σ.length
      · rw [if_pos hl, if_pos ⟨by simp [hl.1], hl.2⟩]
      · rw [if_neg hl, if_neg fun z => hl ⟨by
          rcases List.mem_cons.mp z.1 with q | q
          · exact absurd q.symm hv
          · exact q, z.2⟩]
/-- wiping forgets what differs at these alone -/
theorem wipe_same {σ τ : L2.St} {vs : List Nat} (hl : σ.length = τ.length) (h : ∀ i, i ∉ vs → σ[i]? = τ[i]?) : wipe σ vs = wipe τ vs := by
  apply List.ext_getElem?
  intro i
  rw [wipe_get, wipe_get, hl]
  by_cases hi : i ∈ vs
  · by_cases hz : i < τ.length
    · rw [if_pos ⟨hi, hz⟩, if_pos ⟨hi, hz⟩]
    · rw [if_neg fun z => hz z.2, if_neg fun z => hz z.2, List.getElem?_eq_none (by omega), List.getElem?_eq_none (by omega)]
  · rw [if_neg fun z => hi z.1, if_neg fun z => hi z.1]
    exact h i hi
section
variable {c : Kx} {Wo : Option Addr} {nf : Nat → List Addr} {ρ : Slots} {w : Wl} {σ : L2.St} {H : Hp}
theorem SimE.wipe (S : SimE c.toKn Wo nf ρ w σ H) (vs : List Nat) : SimE c.toKn Wo nf (wipeS ρ vs) w (L2.wipe σ vs) H := by
  refine ⟨fun i d o e => ?_, S.wok, by rw [wipe_length, wipeS_length]; exact S.len⟩
  obtain ⟨h1, h2⟩ := wipeS_some e
  obtain ⟨v, h3, h4⟩ := S.slot i d o h1
  exact ⟨v, by rw [wipe_out h2]; exact h3, h4⟩
/-- a name bound -/
theorem SimE.bind (S : SimE c.toKn Wo nf ρ w σ H) {i : Nat} {v : V} {d : D} {o : Nat} {n : List Addr} (r : Rp c.toKn Wo H v d n) : SimE c.toKn Wo (fun j => if j = i then n else nf j) (ρ.set i (some (d, o))) w (σ.set i (some v)) H := by
  refine ⟨fun j d' o' e => ?_, S.wok, by rw [List.length_set, List.length_set]; exact S.len⟩
  by_cases hj : j = i
  · subst hj
    by_cases hl : j < ρ.length
    · rw [List.getElem?_set_self hl] at e
      cases e
      exact ⟨v, List.getElem?_set_self (by rw [S.len]; exact hl), by simpa using r⟩
    · rw [List.getElem?_eq_none (by rw [List.length_set]; omega)] at e; cases e
  · rw [List.getElem?_set_ne (Ne.symm hj)] at e
    obtain ⟨u, h1, h2⟩ := S.slot j d' o' e
    exact ⟨u, by rw [List.getElem?_set_ne (Ne.symm hj)]; exact h1, by simpa [hj] using h2⟩
end

/-! ### targets -/
/-- names, by slots, that may be stored to -/
def TgOk (X : Cx) : Tg → Expr → Prop
  | .nm i, .Name x _ => X.N[i]? = some x ∧ Loc X.env.scope x ∧ (X.fn x = true ∨ X.env.scope.names.lookup x = some .local)
  | .tp is, .Tuple es _ _ => is.length = es.length ∧ ∀ (j i : Nat) (e : Expr), is[j]? = some i → es[j]? = some e → ∃ x p, e = Expr.Name x p ∧ X.N[i]? = some x ∧ Loc X.env.scope x ∧ (X.fn x = true ∨ X.env.scope.names.lookup x = some .local)
  | _, _ => False
def gNames : List Nat → TGs
  | [] => gNil
  | i :: is => gCons (gName i) (gNames is)
def gOf (K : PySem.W.Frag) : Tg → TG
  | .nm i => gName i
  | .tp is => gTup K is.length (gNames is)
theorem pgs_names {X : Cx} (hN : X.N.Nodup) : ∀ {is : List Nat} {es : List Expr}, is.length = es.length → (∀ (j i : Nat) (e : Expr), is[j]? = some i → es[j]? = some e → ∃ x p, e = Expr.Name x p ∧ X.N[i]? = some x ∧ Loc X.env.scope x ∧ (X.fn x = true ∨ X.env.scope.names.lookup x = some .local)) → PGs X es (gNames is)
  | [], [], _, _ => pgs_nil
  | i :: is, e :: es, hl, h => by
    obtain ⟨x, p, rfl, h1, h2, h3⟩ := h 0 i e rfl rfl
    exact pgs_cons (pg_name hN h1 h2 h3) (pgs_names hN (by simpa using hl) fun j i e q1 q2 => h (j + 1) i e (by simpa using q1) (by simpa using q2))
  | [], _ :: _, hl, _ => by simp at hl
  | _ :: _, [], hl, _ => by simp at hl
theorem names_each {X : Cx} : ∀ {is : List Nat} {es : List Expr}, is.length = es.length → (∀ (j i : Nat) (e : Expr), is[j]? = some i → es[j]? = some e → ∃ x p, e = Expr.Name x p ∧ X.N[i]? = some x ∧ Loc X.env.scope x ∧ (X.fn x = true ∨ X.env.scope.names.lookup x = some .local)) →
    (assignEach es X.env).length = is.length ∧ (assignEach es X.env).findIdx? (·.1) = none
  | [], [], _, _ => ⟨rfl, rfl⟩
  | i :: is, e :: es, hl, h => by
    obtain ⟨x, p, rfl, _⟩ := h 0 i e rfl rfl
    obtain ⟨h1, h2⟩ := names_each (X := X) (is := is) (es := es) (by simpa using hl) fun j i e q1 q2 => h (j + 1) i e (by simpa using q1) (by simpa using q2)
    refine ⟨?_, ?_⟩
    · show (assignEach es X.env).length + 1 = is.length + 1
      rw [h1]
    · show List.findIdx? (·.1) ((false, assign (.Name x p) X.env) :: assignEach es X.env) = none
      rw [List.findIdx?_cons]
      simp [h2]
  | [], _ :: _, hl, _ => by simp at hl
  | _ :: _, [], hl, _ => by simp at hl
theorem pg_of {X : Cx} {t : Tg} {e : Expr} (hN : X.N.Nodup) (hc : X.calm = true) (h : TgOk X t e) : PG X e (gOf X.K t) := by
  unfold TgOk at h
  split at h
  · exact pg_name hN h.1 h.2.1 h.2.2
  · obtain ⟨h1, h2⟩ := names_each h.1 h.2
    exact pg_tup hc (pgs_names hN h.1 h.2) h1 h2
  · exact h.elim
section
variable {c : Kx} {Wo : Option Addr} {nf : Nat → List Addr} {ρ : Slots} {w : Wl} {σ : L2.St} {H : Hp}
/-- what a bound target leaves -/
structure Bnd (c : Kx) (Wo : Option Addr) (nf : Nat → List Addr) (ρ : Slots) (w : Wl) (σ : L2.St) (H : Hp) (is : List Nat) (n : List Addr) (ρ' : Slots) (σ' : L2.St) (nf' : Nat → List Addr) : Prop where
  sim : SimE c.toKn Wo nf' ρ' w σ' H
  out : ∀ j, j ∉ is → σ'[j]? = σ[j]?
  outS : ∀ j, j ∉ is → ρ'[j]? = ρ[j]?
  outN : ∀ j, j ∉ is → nf' j = nf j
  inN : ∀ j ∈ is, ∀ a ∈ nf' j, a ∈ n ∨ a ∈ nf j
  inL : ∀ j ∈ is, j < ρ.length → ∀ a ∈ nf' j, a ∈ n
  len : σ'.length = σ.length
  lenS : ρ'.length = ρ.length
  own : ∀ j d o, j ∈ is → ρ'[j]? = some (some (d, o)) → o = 0
theorem Bnd.none (S : SimE c.toKn Wo nf ρ w σ H) (n : List Addr) : Bnd c Wo nf ρ w σ H [] n ρ σ nf :=
  ⟨S, fun _ _ => rfl, fun _ _ => rfl, fun _ _ => rfl, fun j h => by simp at h, fun j h => by simp at h, rfl, rfl, fun j d o h => by simp at h⟩
theorem bindNames : ∀ {is : List Nat} {ds : List D} {vs : List V} {n : List Addr} {nf : Nat → List Addr} {ρ : Slots} {σ : L2.St} {Q : L2.St → Hp → Prop}, SimE c.toKn Wo nf ρ w σ H → RpA c.toKn Wo H vs ds n → ds.length = is.length → is.Nodup →
    (∀ σ' nf', Bnd c Wo nf ρ w σ H is n ((is.zip ds).foldl (fun ρ p => ρ.set p.1 (some (p.2, 0))) ρ) σ' nf' → Q σ' H) → gNames is vs σ H Q
  | [], ds, vs, n, nf, ρ, σ, Q, S, r, hl, nd, q => by
    cases ds with
    | cons d ds => simp at hl
    | nil =>
      cases r
      exact ⟨rfl, q σ nf (Bnd.none S _)⟩
  | i :: is, ds, vs, n, nf, ρ, σ, Q, S, r, hl, nd, q => by
    cases ds with
    | nil => simp at hl
    | cons d ds =>
      cases r with
      | @cons v vs' _ _ n1 n2 r1 r2 =>
        have S1 := S.bind (i := i) (o := 0) r1
        obtain ⟨ni, nd'⟩ := List.nodup_cons.mp nd
        refine ⟨v, vs', rfl, ?_⟩
        refine bindNames (is := is) (ds := ds) S1 r2 (by simpa using hl) nd' fun σ' nf' B => ?_
        refine q σ' nf' ⟨B.sim, fun j hj => ?_, fun j hj => ?_, fun j hj => ?_, fun j hj a ha => ?_, fun j hj hlt a ha => ?_, ?_, ?_, fun j d' o hj e => ?_⟩
        · rw [B.out j (fun z => hj (by simp [z])), List.getElem?_set_ne (fun z => hj (by simp [z]))]
        · show ((is.zip ds).foldl (fun ρ p => ρ.set p.1 (some (p.2, 0))) (ρ.set i (some (d, 0))))[j]? = _
          rw [B.outS j (fun z => hj (by simp [z])), List.getElem?_set_ne (fun z => hj (by simp [z]))]
        · rw [B.outN j (fun z => hj (by simp [z])), if_neg (fun z => hj (by simp [z]))]
        · rcases List.mem_cons.mp hj with rfl | hj
          · rw [B.outN j ni, if_pos rfl] at ha
            exact .inl (by simp [ha])
          · rcases B.inN j hj a ha with z | z
            · exact .inl (by simp [z])
            · rw [if_neg (show ¬ j = i from fun e => ni (by rw [← e]; exact hj))] at z
              exact .inr z
        · rcases List.mem_cons.mp hj with rfl | hj
          · rw [B.outN j ni, if_pos rfl] at ha
            simp [ha]
          · have := B.inL j hj (by rw [List.length_set]; exact hlt) a ha
            simp [this]
        · rw [B.len, List.length_set]
        · show ((is.zip ds).foldl (fun ρ p => ρ.set p.1 (some (p.2, 0))) (ρ.set i (some (d, 0)))).length = _
          rw [B.lenS, List.length_set]
        · rcases List.mem_cons.mp hj with rfl | hj
          · have e' : ((is.zip ds).foldl (fun ρ p => ρ.set p.1 (some (p.2, 0))) (ρ.set j (some (d, 0))))[j]? = some (some (d', o)) := e
            rw [B.outS j ni] at e'
            by_cases hlt : j < ρ.length
            · rw [List.getElem?_set_self hlt] at e'
              cases e'
              rfl
            · rw [List.getElem?_eq_none (by rw [List.length_set]; omega)] at e'; cases e'
          · exact B.own j d' o hj e
theorem bindTg {t : Tg} {v : V} {d : D} {n : List Addr} {k : Slots → Prop} {Q : L2.St → Hp → Prop} (S : SimE c.toKn Wo nf ρ w σ H) (r : Rp c.toKn Wo H v d n) (nd : (tgl t).Nodup) (h : bindT t d ρ k)
    (q : ∀ ρ' σ' nf', Bnd c Wo nf ρ w σ H (tgl t) n ρ' σ' nf' → k ρ' → Q σ' H) : gOf c.K t v σ H Q := by
  cases t with
  | nm i =>
    have B := S.bind (i := i) (o := 0) r
    refine q _ _ _ ⟨B, fun j hj => ?_, fun j hj => ?_, fun j hj => ?_, fun j hj a ha => ?_, fun j hj hlt a ha => ?_, List.length_set, List.length_set, fun j d' o hj e => ?_⟩ h
    · exact List.getElem?_set_ne (fun z => hj (by simp [tgl, z]))
    · exact List.getElem?_set_ne (fun z => hj (by simp [tgl, z]))
    · show (if j = i then n else nf j) = nf j
      rw [if_neg (fun z => hj (by simp [tgl, z]))]
    · have e : j = i := by simpa [tgl] using hj
      subst e
      left
      simpa using ha
    · have e : j = i := by simpa [tgl] using hj
      subst e
      simpa using ha
    · have e' : j = i := by simpa [tgl] using hj
      subst e'
      by_cases hlt : j < ρ.length
      · rw [List.getElem?_set_self hlt] at e
        cases e
        rfl
      · rw [List.getElem?_eq_none (by rw [List.length_set]; omega)] at e; cases e
  | tp is =>
    unfold bindT at h
    cases d with
    | tup ds =>
      obtain ⟨hl, hk⟩ := h
      cases r with
      | @tup a xs _ _ s r =>
        refine ⟨a, xs, rfl, s, by rw [r.length]; exact hl, ?_⟩
        exact bindNames S r hl nd fun σ' nf' B => q _ σ' nf' B hk
    | _ => exact h.elim
end
end Ev

set_option Elab.async false
set_option linter.all false
set_option maxRecDepth 100000
set_option maxHeartbeats 4000000
/-! # EvO: comprehensions -/
namespace Ev
open PySem PySem.Spec PyProof.Rows L2

/-! ### blocks: one reading for all the contexts that a block may start in -/
abbrev BI := Shared × Hp × Addr × List (Str × Addr) × List Addr
abbrev bkc (X : Cx) (scope : Scope) (b : BI) : Cx := X.blk b.1 b.2.1 scope (compEnvC scope b.2.2.2.1 b.2.2.1 X.env) b.2.2.2.2
abbrev WF : WX := fun _ _ _ _ => False
def SemE (c : Kx) (Wx : WX) (t : TE) (fv : List Nat) (P : Slots → Wl → KE → XQ → Prop) : Prop :=
  ∀ Wo nf ρ w σ H K E Q, SimE c.toKn Wo nf ρ w σ H → LiftK c.toKn Wo nf ρ fv H K Q → LiftX c Wo nf ρ σ H E Wx → P ρ w K E → t σ H Q
/-- the tests of a clause -/
def SemC (c : Kx) (t : TT) (P : Slots → Wl → (Bool → Wl → Prop) → Prop) : Prop :=
  ∀ Wo nf ρ w σ H (K : Bool → Wl → Prop) (Q : Bool → Hp → Prop), SimE c.toKn Wo nf ρ w σ H →
    (∀ b w', K b w' → ∀ H', Kp (Ws Wo) H H' → WOk c.toKn Wo w' H' → Q b H') → P ρ w K → t σ H Q
def SC (c : Kx) (X : Cx) (ifs : List Expr) (P : Slots → Wl → (Bool → Wl → Prop) → Prop) : Prop := ∃ t, PTs X ifs t ∧ SemC c t P
def SemI (c : Kx) (Wx : WX) (wi : TI) (fv : List Nat) (P : Slots → Wl → (List D → Wl → Prop) → XQ → Prop) : Prop :=
  ∀ Wo nf ρ w σ H (K : List D → Wl → Prop) E (R : It → Hp → Prop), SimE c.toKn Wo nf ρ w σ H →
    (∀ ds w', K ds w' → ∀ J m H', ItOk c Wo J ds m H' → Kp (Ws Wo) H H' → WOk c.toKn Wo w' H' → (∀ a ∈ m, H a = none ∨ ∃ i ∈ fv, Lv ρ i ∧ a ∈ nf i) → (∀ a ∈ m, (∃ xs, H' a = some (.lst xs)) ∧ a ∉ Ws Wo) → R J H') → LiftX c Wo nf ρ σ H E Wx → P ρ w K E → wi σ H R
section
variable {c : Kx} {X : Cx} {Wx : WX} {T : Tab} {scope : Scope} {e : Expr} {fv : List Nat}
theorem uniE {P : Slots → Wl → KE → XQ → Prop} (h : ∀ b, SE c (bkc X scope b) Wx e fv P) : ∃ t, (∀ b, PE (bkc X scope b) e t) ∧ SemE c Wx t fv P := by
  refine ⟨fun σ H Q => ∀ b, (h b).choose σ H Q, fun b => ⟨fun pins s σ H Q I ht => (h b).choose_spec.1.run pins s σ H Q I (ht b)⟩, ?_⟩
  intro Wo nf ρ w σ H K E Q S l lx p b
  exact (h b).choose_spec.2 Wo nf ρ w σ H K E Q S l lx p
theorem uniC {ifs : List Expr} {P : Slots → Wl → (Bool → Wl → Prop) → Prop} (h : ∀ b, SC c (bkc X scope b) ifs P) : ∃ t, (∀ b, PTs (bkc X scope b) ifs t) ∧ SemC c t P := by
  refine ⟨fun σ H Q => ∀ b, (h b).choose σ H Q, fun b => ⟨fun pins s σ H Q I ht => (h b).choose_spec.1.run pins s σ H Q I (ht b)⟩, ?_⟩
  intro Wo nf ρ w σ H K Q S l p b
  exact (h b).choose_spec.2 Wo nf ρ w σ H K Q S l p
theorem uniI {tg it : Expr} {P : Slots → Wl → (List D → Wl → Prop) → XQ → Prop} (h : ∀ b, SI c (bkc X scope b) Wx tg it fv P) : ∃ t, (∀ b, PI (bkc X scope b) tg it t) ∧ SemI c Wx t fv P := by
  refine ⟨fun σ H Q => ∀ b, (h b).choose σ H Q, fun b => ⟨fun pins s σ H Q I ht => (h b).choose_spec.1.run pins s σ H Q I (ht b)⟩, ?_⟩
  intro Wo nf ρ w σ H K E R S l lx p b
  exact (h b).choose_spec.2 Wo nf ρ w σ H K E R S l lx p
theorem sc_no : SC c X [] (wC T .no) := ⟨tYes, pts_nil, fun Wo nf ρ w σ H K Q S l p => l true w p H .refl S.wok⟩
theorem sc_ex {x : Ex} (h : STt c X Wx e (wE T x)) : SC c X [e] (wC T (.ex x)) := by
  obtain ⟨t, pt, ht⟩ := h
  exact ⟨t, pts_one pt, fun Wo nf ρ w σ H K Q S l p => ht Wo nf ρ w σ H K _ Q S l .no p⟩
end

section
variable {c : Kx} {Wo : Option Addr} {nf nf2 : Nat → List Addr} {ρ ρ2 : Slots} {fv fv2 : List Nat} {H H1 H3 H4 H' : Hp} {D : Addr} {w w' w'' : Wl} {acc : List Ev.D} {fr q : Nat} {vs : List V} {ns n2 : List Addr} {y : V} {d : Ev.D} {σ : L2.St}
theorem WOk.keep {S : List Addr} (o : WOk c.toKn Wo w H) (k : Kp S H H') (l : Ls H S) (n : ∀ a, Wo = some a → a ∉ S) : WOk c.toKn Wo w H' := fun a e => by
  obtain ⟨xs, h1, h2, h3⟩ := o a e
  exact ⟨xs, k.keep a _ h1 (n a e), h2.keep w k l (fun b hb => by simp at hb), h3⟩
/-- a comprehension under way: D the new list -/
structure LcI (c : Kx) (Wo : Option Addr) (nf : Nat → List Addr) (ρ : Slots) (fv : List Nat) (H H1 : Hp) (D : Addr) (acc : List Ev.D) (fr : Nat) (w' : Wl) (H' : Hp) (vs : List V) (ns : List Addr) : Prop where
  at_ : H' D = some (.lst vs)
  rp : RpA c.toKn Wo H' vs acc ns
  nD : D ∉ ns
  kp : Kp (Ws Wo) H1 H'
  wok : WOk c.toKn Wo w' H'
  org : ∀ a ∈ ns, H a = none ∨ ∃ i ∈ fv, Lv ρ i ∧ a ∈ nf i
  f2 : 2 ≤ fr → ns.Nodup ∧ ∀ a ∈ ns, H a = none
theorem LcI.step (L : LcI c Wo nf ρ fv H H1 D acc fr w' H3 vs ns) (nW : D ∉ Ws Wo) (k : Kp (Ws Wo) H3 H4) (o : WOk c.toKn Wo w'' H4) : LcI c Wo nf ρ fv H H1 D acc fr w'' H4 vs ns :=
  ⟨k.keep D _ L.at_ nW, L.rp.kp k L.wok.ls, L.nD, L.kp.trans k, o, L.org, L.f2⟩
theorem LcI.start (n : H1 D = none) (o : WOk c.toKn Wo w H1) : LcI c Wo nf ρ fv H H1 D [] 2 w (upd H1 D (.lst [])) [] [] := by
  refine ⟨upd_same, .nil, by simp, Kp.new n, o.keep (S := []) (Kp.new n) .nil (fun a _ => by simp), fun a h => by simp at h, fun _ => ⟨List.nodup_nil, fun a h => by simp at h⟩⟩
theorem LcI.put (L : LcI c Wo nf ρ fv H H1 D acc fr w' H3 vs ns) (n1 : H1 D = none) (nW : D ∉ Ws Wo) (k0 : Kp (Ws Wo) H H1) (r : Res c.toKn Wo nf2 ρ2 fv2 H3 H4 y d q w'' n2)
    (og : ∀ i ∈ fv2, Lv ρ2 i → ∀ a ∈ nf2 i, (H a = none ∨ ∃ i ∈ fv, Lv ρ i ∧ a ∈ nf i) ∧ a ≠ D) :
    H4 D = some (.lst vs) ∧ LcI c Wo nf ρ fv H H1 D (acc ++ [d]) (min fr q) w'' (upd H4 D (.lst (vs ++ [y]))) (vs ++ [y]) (ns ++ n2) := by
  have h4 : H4 D = some (.lst vs) := r.kp.keep D _ L.at_ nW
  have lD : Ls H4 [D] := fun a ha => by
    have e : a = D := by simpa using ha
    exact ⟨vs, by rw [e]; exact h4⟩
  have nD2 : ∀ a ∈ n2, a ≠ D := fun a ha => by
    rcases r.org a ha with z | ⟨i, hi, lv, z⟩
    · rintro rfl
      rw [L.at_] at z; cases z
    · exact (og i hi lv a z).2
  have kw : Kp [D] H4 (upd H4 D (.lst (vs ++ [y]))) := .wr h4
  have hr1 : RpA c.toKn Wo H4 vs acc ns := L.rp.kp r.kp L.wok.ls
  have new2 : ∀ a, H3 a = none → H a = none := fun a h => k0.dom a (L.kp.dom a h)
  refine ⟨h4, ⟨upd_same, ?_, ?_, ?_, ?_, ?_, ?_⟩⟩
  · refine (hr1.append (RpA.one r.rp)).keep _ kw lD fun a ha => ?_
    rcases List.mem_append.mp ha with z | z
    · simp only [List.mem_singleton]
      rintro rfl
      exact L.nD z
    · simpa using nD2 a z
  · intro z
    rcases List.mem_append.mp z with z | z
    · exact L.nD z
    · exact nD2 D z rfl
  · have k := L.kp.trans r.kp
    exact ⟨fun a o e na => by
      rw [upd_ne (ne_of_none e n1)]
      exact k.keep a o e na, fun a h => by
      by_cases e : a = D
      · rw [e]; exact n1
      · rw [upd_ne e] at h
        exact k.dom a h⟩
  · refine r.wok.keep kw lD fun a e z => ?_
    have e' : a = D := by simpa using z
    subst e'
    exact nW (by simp [Ws, e])
  · intro a ha
    rcases List.mem_append.mp ha with z | z
    · exact L.org a z
    · rcases r.org a z with z | ⟨i, hi, lv, z⟩
      · exact .inl (new2 a z)
      · exact (og i hi lv a z).1
  · intro h
    have h1 : 2 ≤ fr := by omega
    have h2 : 2 ≤ q := by omega
    obtain ⟨a1, a2⟩ := L.f2 h1
    obtain ⟨b1, b2⟩ := r.f2 h2
    refine ⟨List.nodup_append.mpr ⟨a1, b1, fun a ha b hb e => ?_⟩, fun a ha => ?_⟩
    · subst e
      obtain ⟨⟨xs, q⟩, _⟩ := RpA.there acc L.rp a ha
      rw [b2 a hb] at q; cases q
    · rcases List.mem_append.mp ha with z | z
      · exact a2 a z
      · exact new2 a (b2 a z)
/-- where the lists come from that a block's names hold -/
def Og (nf : Nat → List Addr) (ρ : Slots) (fv : List Nat) (H : Hp) (D : Addr) (nf2 : Nat → List Addr) (ρ2 : Slots) (fv2 : List Nat) : Prop :=
  ∀ i ∈ fv2, Lv ρ2 i → ∀ a ∈ nf2 i, (H a = none ∨ ∃ i ∈ fv, Lv ρ i ∧ a ∈ nf i) ∧ a ≠ D
theorem Og.wipe {vs : List Nat} (h : Og nf ρ fv H D nf2 ρ2 fv2) : Og nf ρ fv H D nf2 (wipeS ρ2 vs) fv2 := fun i hi ⟨d, o, e⟩ a ha => h i hi ⟨d, o, (wipeS_some e).1⟩ a ha
theorem Og.bind {is : List Nat} {n : List Addr} {ρ' : Slots} {σ σ' : L2.St} {nf' : Nat → List Addr} (h : Og nf ρ fv H D nf2 ρ2 fv2) (B : Bnd c Wo nf2 ρ2 w σ H' is n ρ' σ' nf') (hn : ∀ a ∈ n, (H a = none ∨ ∃ i ∈ fv, Lv ρ i ∧ a ∈ nf i) ∧ a ≠ D) : Og nf ρ fv H D nf' ρ' fv2 := fun i hi lv a ha => by
  by_cases z : i ∈ is
  · by_cases hl : i < ρ2.length
    · exact hn a (B.inL i z hl a ha)
    · obtain ⟨d, o, e⟩ := lv
      rw [List.getElem?_eq_none (by rw [B.lenS]; omega)] at e; cases e
  · rw [B.outN i z] at ha
    refine h i hi ?_ a ha
    obtain ⟨d, o, e⟩ := lv
    exact ⟨d, o, by rw [← B.outS i z]; exact e⟩
end

/-- a comprehension's first walk, whatever a turn does -/
theorem lc2_it {J : It} {n : Nat} {G : Hp → Prop} {Y : Nat → Hp → V → Hp → Prop} (w : Walk J n G Y) {H0 : Hp} {Qd : Hp → Prop} {F : V → Hp → (Hp → Prop) → Prop} (Pv : Nat → Hp → Prop) (h0 : Pv 0 H0) (hG : ∀ i H, i ≤ n → Pv i H → G H)
    (hs : ∀ i x H H', i < n → Pv i H → Y i H x H' → F x H' (Pv (i + 1))) (hd : ∀ H, Pv n H → Qd H) :
    ∃ W : Nat → Nat → Hp → Prop, (∃ m, W 0 m H0) ∧ ∀ i m H, W i m H →
      (J.stop i H ∧ Qd H) ∨ (J.go i H ∧ ∃ Nx : Hp → Prop, (∀ H', Nx H' → ∃ m', m' < m ∧ W (i + 1) m' H') ∧ ∀ x H', J.yld i H x H' → F x H' Nx) := by
  refine ⟨fun i m H => m = n - i ∧ i ≤ n ∧ Pv i H, ⟨n, by simp, Nat.zero_le _, h0⟩, ?_⟩
  rintro i m H ⟨rfl, hi, p⟩
  have q := hG i H hi p
  by_cases hlt : i < n
  · exact .inr ⟨w.goes i H hlt q, Pv (i + 1), fun H' p' => ⟨n - (i + 1), by omega, rfl, hlt, p'⟩, fun x H' y => hs i x H H' hlt p (w.yields i H x H' hlt q y)⟩
  · have e : i = n := by omega
    subst e
    exact .inl ⟨w.stops H q, hd H p⟩
section
variable {c : Kx} {X : Cx} {Wx : WX} {T : Tab} {scope : Scope} {own : List (Str × Nat)}
theorem turns_cons {f : D → List D → Nat → Wl → KA → Prop} {ds acc : List D} {fr : Nat} {w : Wl} {k : KA} {i : Nat} {d : D} (hd : ds[i]? = some d) (h : turns f (ds.drop i) acc fr w k) : f d acc fr w fun acc' fr' w' => turns f (ds.drop (i + 1)) acc' fr' w' k := by
  have hi := List.getElem?_eq_some_iff.mp hd
  obtain ⟨hl, e⟩ := hi
  rw [List.drop_eq_getElem_cons hl, e] at h
  exact h
theorem turns_end {f : D → List D → Nat → Wl → KA → Prop} {ds acc : List D} {fr : Nat} {w : Wl} {k : KA} (h : turns f (ds.drop ds.length) acc fr w k) : k acc fr w := by
  rw [List.drop_length] at h
  exact h
theorem wipe_idem (σ : L2.St) (vs : List Nat) : wipe (wipe σ vs) vs = wipe σ vs :=
  wipe_same (wipe_length _ _) fun i hi => wipe_out hi
/-- the tree-wise meaning of a comprehension with one clause -/
theorem sem_lc {wi : TI} {tt : TT} {te : TE} {t : Tg} {xi : Ix} {xc : Ox} {xe : Ex} (si : SemI c Wx wi (fvI xi) (wI T xi)) (st : SemC c tt (wC T xc)) (se : SemE c WF te (fvE xe) (wE T xe)) (nd : (tgl t).Nodup) (sub : ∀ i ∈ tgl t, i ∈ own.map (·.2)) :
    SemE c Wx (tLc wi (gOf c.K t) tt te (own.map (·.2))) (fvE (.lc own xe t xi xc)) (wE T (.lc own xe t xi xc)) := by
  intro Wo nf ρ w σ H K E Q S l lx p
  unfold wE at p
  refine si Wo nf ρ w σ H _ E _ S (fun ds w1 pk J m H1 it k1 o1 og1 th1 => ?_) lx p
  intro D hD
  obtain ⟨G, W, g0, gk⟩ := it
  have nW : D ∉ Ws Wo := fun z => by
    obtain ⟨xs, q⟩ := o1.ls D z
    rw [hD] at q; cases q
  have nm : ∀ a ∈ m, a ≠ D := fun a ha => by
    rintro rfl
    obtain ⟨⟨xs, q⟩, _⟩ := th1 a ha
    rw [hD] at q; cases q
  have og0 : Og nf ρ (fvE (.lc own xe t xi xc)) H D nf ρ (fvE xe) := fun i hi lv a ha => by
    refine ⟨.inr ⟨i, by simp [fvE, hi], lv, ha⟩, ?_⟩
    rintro rfl
    obtain ⟨d, o, e⟩ := lv
    obtain ⟨v, _, r⟩ := S.slot i d o e
    obtain ⟨⟨xs, q⟩, _⟩ := Rp.there d r a ha
    have := k1.dom a hD
    rw [this] at q; cases q
  have og1' : ∀ a ∈ m, (H a = none ∨ ∃ i ∈ fvE (.lc own xe t xi xc), Lv ρ i ∧ a ∈ nf i) ∧ a ≠ D := fun a ha => ⟨(og1 a ha).imp id fun ⟨i, hi, q⟩ => ⟨i, by simp [fvE, hi], q⟩, nm a ha⟩
  have S1 := S.step k1 o1
  refine lc_it W (fun i H' => ∃ acc fr w' vs ns, LcI c Wo nf ρ (fvE (.lc own xe t xi xc)) H H1 D acc fr w' H' vs ns ∧ turns _ (ds.drop i) acc fr w' _ ∧ G H') ⟨[], 2, w1, [], [], LcI.start hD o1, pk, gk [] _ _ g0 (Kp.new hD) .nil fun a _ => by simp⟩ (fun i H' _ ⟨_, _, _, _, _, _, _, g⟩ => g) ?_ ?_
  · rintro i x H5 H6 hi ⟨acc, fr, w', vs, ns, L, tu, g⟩ ⟨d, n1, hd, k6, r6, sub1⟩
    have tu := turns_cons hd tu
    have k6' : Kp (Ws Wo) H5 H6 := k6.mono fun a h => by simp at h
    have L6 := L.step nW k6' (L.wok.keep k6 .nil fun a _ => by simp)
    have g6 := gk [] _ _ g k6 .nil fun a _ => by simp
    have S6 := (S1.step L6.kp L6.wok).wipe (own.map (·.2))
    refine bindTg S6 r6 nd tu fun ρ2 σ2 nf2 B pb => ?_
    refine ⟨(wipe_same (B.len) fun j hj => B.out j fun z => hj (sub j z)).trans (wipe_idem _ _), ?_⟩
    have og2 := og0.wipe.bind B fun a ha => og1' a (sub1 a ha)
    refine st Wo nf2 ρ2 w' σ2 H6 _ _ B.sim (fun b w7 pb H7 k7 o7 => ?_) pb
    have L7 := L6.step nW k7 o7
    have g7 := gk _ _ _ g6 k7 L6.wok.ls fun a ha => (th1 a ha).2
    cases b with
    | false => exact ⟨acc, fr, w7, vs, ns, L7, pb, g7⟩
    | true =>
      have pb : wE T xe ρ2 w7 _ _ := pb
      refine se Wo nf2 ρ2 w7 σ2 H7 _ _ _ (B.sim.step k7 o7) (fun d' q' w8 ⟨hl, pk'⟩ v' n' H8 r => ?_) .no pb
      obtain ⟨h8, L8⟩ := L7.put hD nW k1 r og2
      refine ⟨vs, h8, by rw [L7.rp.length]; exact Nat.lt_of_lt_of_le hl (by decide), acc ++ [d'], min fr q', w8, _, _, L8, pk', ?_⟩
      have g8 := gk _ _ _ g7 r.kp L7.wok.ls fun a ha => (th1 a ha).2
      exact gk [D] _ _ g8 (.wr h8) (fun a ha => by
        have e : a = D := by simpa using ha
        exact ⟨vs, by rw [e]; exact h8⟩) fun a ha => by simpa using nm a ha
  · rintro H5 ⟨acc, fr, w', vs, ns, L, tu, g⟩
    have pk := turns_end tu
    have nDH : H D = none := k1.dom D hD
    refine l _ _ _ pk (.ref D) (D :: ns) H5 ⟨.lst L.at_ (fun e => nW (by simp [Ws, e])) L.rp, k1.trans L.kp, L.wok, fun a ha => ?_, fun _ es _ a m e => ?_, fun h2 => ?_⟩
    · rcases List.mem_cons.mp ha with rfl | ha
      · exact .inl nDH
      · exact L.org a ha
    · cases e
      exact ⟨nDH, L.nD⟩
    · have h3 : fr = 2 ∨ ¬ fr = 2 := Decidable.em _
      rcases h3 with rfl | h3
      · obtain ⟨a1, a2⟩ := L.f2 (Nat.le_refl _)
        exact ⟨List.nodup_cons.mpr ⟨L.nD, a1⟩, fun a ha => by
          rcases List.mem_cons.mp ha with rfl | ha
          · exact nDH
          · exact a2 a ha⟩
      · rw [if_neg h3] at h2; omega
/-- two clauses -/
theorem sem_lc2 {wi wi2 : TI} {tt tt2 : TT} {te : TE} {t t2 : Tg} {xi xi2 : Ix} {xc xc2 : Ox} {xe : Ex} (si : SemI c Wx wi (fvI xi) (wI T xi)) (st : SemC c tt (wC T xc)) (si2 : SemI c WF wi2 (fvI xi2) (wI T xi2)) (st2 : SemC c tt2 (wC T xc2)) (se : SemE c WF te (fvE xe) (wE T xe))
    (nd : (tgl t).Nodup) (nd2 : (tgl t2).Nodup) (sub : ∀ i ∈ tgl t, i ∈ own.map (·.2)) :
    SemE c Wx (tLc2 wi (gOf c.K t) tt wi2 (gOf c.K t2) tt2 te (own.map (·.2)) (tgl t2)) (fvE (.lc2 own xe t xi xc t2 xi2 xc2)) (wE T (.lc2 own xe t xi xc t2 xi2 xc2)) := by
  intro Wo nf ρ w σ H K E Q S l lx p
  unfold wE at p
  refine si Wo nf ρ w σ H _ E _ S (fun ds w1 pk J m H1 it k1 o1 og1 th1 => ?_) lx p
  intro D hD
  obtain ⟨G, W, g0, gk⟩ := it
  have nW : D ∉ Ws Wo := fun z => by
    obtain ⟨xs, q⟩ := o1.ls D z
    rw [hD] at q; cases q
  have nm : ∀ a ∈ m, a ≠ D := fun a ha => by
    rintro rfl
    obtain ⟨⟨xs, q⟩, _⟩ := th1 a ha
    rw [hD] at q; cases q
  have ogA : ∀ fv2, (∀ i ∈ fv2, i ∈ fvE (.lc2 own xe t xi xc t2 xi2 xc2)) → Og nf ρ (fvE (.lc2 own xe t xi xc t2 xi2 xc2)) H D nf ρ fv2 := fun fv2 hf i hi lv a ha => by
    refine ⟨.inr ⟨i, hf i hi, lv, ha⟩, ?_⟩
    rintro rfl
    obtain ⟨d, o, e⟩ := lv
    obtain ⟨v, _, r⟩ := S.slot i d o e
    obtain ⟨⟨xs, q⟩, _⟩ := Rp.there d r a ha
    have := k1.dom a hD
    rw [this] at q; cases q
  have ogE := ogA (fvE xe) fun i hi => by simp [fvE, hi]
  have ogI := ogA (fvI xi2) fun i hi => by simp [fvE, hi]
  have og1' : ∀ a ∈ m, (H a = none ∨ ∃ i ∈ fvE (.lc2 own xe t xi xc t2 xi2 xc2), Lv ρ i ∧ a ∈ nf i) ∧ a ≠ D := fun a ha => ⟨(og1 a ha).imp id fun ⟨i, hi, q⟩ => ⟨i, by simp [fvE, hi], q⟩, nm a ha⟩
  have S1 := S.step k1 o1
  refine lc2_it (F := fun x H' Nx => gOf c.K t x (wipe σ (own.map (·.2))) H' _) W (fun i H' => ∃ acc fr w' vs ns, LcI c Wo nf ρ (fvE (.lc2 own xe t xi xc t2 xi2 xc2)) H H1 D acc fr w' H' vs ns ∧ turns _ (ds.drop i) acc fr w' _ ∧ G H') ⟨[], 2, w1, [], [], LcI.start hD o1, pk, gk [] _ _ g0 (Kp.new hD) .nil fun a _ => by simp⟩ (fun i H' _ ⟨_, _, _, _, _, _, _, g⟩ => g) ?_ ?_
  · rintro i x H5 H6 hi ⟨acc, fr, w', vs, ns, L, tu, g⟩ ⟨d, n1, hd, k6, r6, sub1⟩
    have tu := turns_cons hd tu
    have k6' : Kp (Ws Wo) H5 H6 := k6.mono fun a h => by simp at h
    have L6 := L.step nW k6' (L.wok.keep k6 .nil fun a _ => by simp)
    have g6 := gk [] _ _ g k6 .nil fun a _ => by simp
    have S6 := (S1.step L6.kp L6.wok).wipe (own.map (·.2))
    refine bindTg S6 r6 nd tu fun ρ2 σ2 nf2 B pb => ?_
    refine ⟨(wipe_same (B.len) fun j hj => B.out j fun z => hj (sub j z)).trans (wipe_idem _ _), ?_⟩
    have og2 := ogE.wipe.bind B fun a ha => og1' a (sub1 a ha)
    have og2I := ogI.wipe.bind B fun a ha => og1' a (sub1 a ha)
    refine st Wo nf2 ρ2 w' σ2 H6 _ _ B.sim (fun b w7 pb H7 k7 o7 => ?_) pb
    have L7 := L6.step nW k7 o7
    have g7 := gk _ _ _ g6 k7 L6.wok.ls fun a ha => (th1 a ha).2
    cases b with
    | false => exact ⟨acc, fr, w7, vs, ns, L7, pb, g7⟩
    | true =>
      have pb : wI T xi2 ρ2 w7 _ _ := pb
      have S7 := B.sim.step k7 o7
      refine si2 Wo nf2 ρ2 w7 σ2 H7 _ _ _ S7 (fun es w8 pk8 J2 m2 H8 it2 k8 o8 og8 th8 => ?_) .no pb
      obtain ⟨G2, W2, g20, gk2⟩ := it2
      have L8 := L7.step nW k8 o8
      have g8 := gk _ _ _ g7 k8 L7.wok.ls fun a ha => (th1 a ha).2
      have S8 := S7.step k8 o8
      have og8' : ∀ a ∈ m2, (H a = none ∨ ∃ i ∈ fvE (.lc2 own xe t xi xc t2 xi2 xc2), Lv ρ i ∧ a ∈ nf i) ∧ a ≠ D := fun a ha => by
        rcases og8 a ha with z | ⟨i, hi, lv, z⟩
        · exact ⟨.inl (k1.dom a (L7.kp.dom a z)), by
            rintro rfl
            rw [L7.at_] at z; cases z⟩
        · exact og2I i hi lv a z
      refine lc2_it W2 (fun j H' => ∃ acc fr w' vs ns, LcI c Wo nf ρ (fvE (.lc2 own xe t xi xc t2 xi2 xc2)) H H1 D acc fr w' H' vs ns ∧ turns _ (es.drop j) acc fr w' _ ∧ G H' ∧ G2 H' ∧ Kp (D :: Ws Wo) H8 H') ⟨acc, fr, w8, vs, ns, L8, pk8, g8, g20, .refl⟩ (fun i H' _ ⟨_, _, _, _, _, _, _, _, g, _⟩ => g) ?_ ?_
      · rintro j y H9 H10 hj ⟨acc, fr, w9, vs, ns, L9, tu9, g9, g29, k9⟩ ⟨d9, n9, hd9, k10, r10, sub9⟩
        have tu9 := turns_cons hd9 tu9
        have k10' : Kp (Ws Wo) H9 H10 := k10.mono fun a h => by simp at h
        have L10 := L9.step nW k10' (L9.wok.keep k10 .nil fun a _ => by simp)
        have g10 := gk [] _ _ g9 k10 .nil fun a _ => by simp
        have g210 := gk2 [] _ _ g29 k10 .nil fun a _ => by simp
        have kk : Kp (D :: Ws Wo) H8 H10 := k9.trans (k10.mono fun a h => by simp at h)
        have lDW : Ls H8 (D :: Ws Wo) := fun a ha => by
          rcases List.mem_cons.mp ha with rfl | ha
          · exact ⟨_, L8.at_⟩
          · exact L8.wok.ls a ha
        have S10 : SimE c.toKn Wo nf2 ρ2 w9 σ2 H10 := ⟨fun i d o e => by
          obtain ⟨v, h1, h2⟩ := S8.slot i d o e
          refine ⟨v, h1, h2.keep d kk lDW fun a ha z => ?_⟩
          rcases List.mem_cons.mp z with rfl | z
          · by_cases hi : i ∈ tgl t
            · by_cases hl : i < ρ2.length
              · exact nm a (sub1 a (B.inL i hi (by rw [← B.lenS]; exact hl) a ha)) rfl
              · rw [List.getElem?_eq_none (by omega)] at e; cases e
            · rw [B.outN i hi] at ha
              rw [B.outS i hi] at e
              obtain ⟨v', _, r'⟩ := S.slot i d o (wipeS_some e).1
              obtain ⟨⟨xs, q⟩, _⟩ := Rp.there d r' a ha
              have := k1.dom a hD
              rw [this] at q; cases q
          · exact noW h2 a ha z, L10.wok, S8.len⟩
        have S11 := S10.wipe (tgl t2)
        refine bindTg S11 r10 nd2 tu9 fun ρ3 σ3 nf3 B3 pb3 => ?_
        refine ⟨(wipe_same (B3.len) fun j hj => B3.out j hj).trans (wipe_idem _ _), ?_⟩
        have og3 := og2.wipe.bind B3 fun a ha => og8' a (sub9 a ha)
        refine st2 Wo nf3 ρ3 w9 σ3 H10 _ _ B3.sim (fun b w11 pb H11 k11 o11 => ?_) pb3
        have L11 := L10.step nW k11 o11
        have g11 := gk _ _ _ g10 k11 L10.wok.ls fun a ha => (th1 a ha).2
        have g211 := gk2 _ _ _ g210 k11 L10.wok.ls fun a ha => (th8 a ha).2
        have kk11 : Kp (D :: Ws Wo) H8 H11 := kk.trans (k11.mono fun a h => by simp [h])
        cases b with
        | false => exact ⟨acc, fr, w11, vs, ns, L11, pb, g11, g211, kk11⟩
        | true =>
          have pb : wE T xe ρ3 w11 _ _ := pb
          refine se Wo nf3 ρ3 w11 σ3 H11 _ _ _ (B3.sim.step k11 o11) (fun d' q' w12 ⟨hl, pk'⟩ v' n' H12 r => ?_) .no pb
          obtain ⟨h12, L12⟩ := L11.put hD nW k1 r og3
          have lD : Ls H12 [D] := fun a ha => by
            have e : a = D := by simpa using ha
            exact ⟨vs, by rw [e]; exact h12⟩
          refine ⟨vs, h12, by rw [L11.rp.length]; exact Nat.lt_of_lt_of_le hl (by decide), acc ++ [d'], min fr q', w12, _, _, L12, pk', ?_, ?_, ?_⟩
          · exact gk [D] _ _ (gk _ _ _ g11 r.kp L11.wok.ls fun a ha => (th1 a ha).2) (.wr h12) lD fun a ha => by simpa using nm a ha
          · exact gk2 [D] _ _ (gk2 _ _ _ g211 r.kp L11.wok.ls fun a ha => (th8 a ha).2) (.wr h12) lD fun a ha => by simpa using (og8' a ha).2
          · exact (kk11.trans (r.kp.mono fun a h => by simp [h])).trans ((Kp.wr h12).mono fun a h => by
              have e : a = D := by simpa using h
              simp [e])
      · rintro H9 ⟨acc, fr, w9, vs, ns, L9, tu9, g9, g29, k9⟩
        exact ⟨acc, fr, w9, vs, ns, L9, turns_end tu9, g9⟩
  · rintro H5 ⟨acc, fr, w', vs, ns, L, tu, g⟩
    have pk := turns_end tu
    have nDH : H D = none := k1.dom D hD
    refine l _ _ _ pk (.ref D) (D :: ns) H5 ⟨.lst L.at_ (fun e => nW (by simp [Ws, e])) L.rp, k1.trans L.kp, L.wok, fun a ha => ?_, fun _ es _ a m e => ?_, fun h2 => ?_⟩
    · rcases List.mem_cons.mp ha with rfl | ha
      · exact .inl nDH
      · exact L.org a ha
    · cases e
      exact ⟨nDH, L.nD⟩
    · have h3 : fr = 2 ∨ ¬ fr = 2 := Decidable.em _
      rcases h3 with rfl | h3
      · obtain ⟨a1, a2⟩ := L.f2 (Nat.le_refl _)
        exact ⟨List.nodup_cons.mpr ⟨L.nD, a1⟩, fun a ha => by
          rcases List.mem_cons.mp ha with rfl | ha
          · exact nDH
          · exact a2 a ha⟩
      · rw [if_neg h3] at h2; omega
end
end Ev

set_option Elab.async false
set_option linter.all false
set_option maxRecDepth 100000
set_option maxHeartbeats 4000000
/-! # EvP: what a body's slots own; stores; writes -/
namespace Ev
open PySem PySem.Spec PyProof.Rows L2

/-- the lists that slot k alone holds -/
def Own (ρ : Slots) (nf : Nat → List Addr) (k : Nat) (a : Addr) : Prop :=
  ∃ d o, ρ[k]? = some (some (d, o)) ∧ ((1 ≤ o ∧ (∃ es, d = .lst es) ∧ ∃ m, nf k = a :: m) ∨ (2 ≤ o ∧ a ∈ nf k))
/-- what the loops under way hold -/
def Held (hd : List Addr) (G : Hp → Prop) : Prop := ∀ S H1 H2, G H1 → Kp S H1 H2 → Ls H1 S → (∀ a ∈ hd, a ∉ S) → G H2
structure Sim (c : Kx) (Wo : Option Addr) (H0 : Hp) (A0 hd : List Addr) (G : Hp → Prop) (nf : Nat → List Addr) (ρ : Slots) (w : Wl) (σ : L2.St) (H : Hp) : Prop extends SimE c.toKn Wo nf ρ w σ H where
  kp : Kp (Ws Wo) H0 H
  org : ∀ i, Lv ρ i → ∀ a ∈ nf i, H0 a = none ∨ a ∈ A0
  own : ∀ k a, Own ρ nf k a → H0 a = none ∧ (∀ j, j ≠ k → Lv ρ j → a ∉ nf j) ∧ a ∉ hd
  o1 : ∀ k d o, ρ[k]? = some (some (d, o)) → 1 ≤ o → (∃ es, d = .lst es) → ∀ a m, nf k = a :: m → a ∉ m
  o2 : ∀ k d o, ρ[k]? = some (some (d, o)) → 2 ≤ o → (nf k).Nodup
  hdL : ∀ a ∈ hd, (∃ xs, H a = some (.lst xs)) ∧ a ∉ Ws Wo
  g : G H
/-- ρ1 knows the same, owns less -/
def Low (ρ1 ρ : Slots) : Prop := ρ1.length = ρ.length ∧ ∀ (k : Nat) d o, ρ1[k]? = some (some (d, o)) → ∃ o', ρ[k]? = some (some (d, o')) ∧ o ≤ o'
theorem Low.refl {ρ : Slots} : Low ρ ρ := ⟨rfl, fun k d o h => ⟨o, h, Nat.le_refl _⟩⟩
theorem Low.trans {ρ1 ρ2 ρ3 : Slots} (a : Low ρ1 ρ2) (b : Low ρ2 ρ3) : Low ρ1 ρ3 := ⟨a.1.trans b.1, fun k d o h => by
  obtain ⟨o', h1, h2⟩ := a.2 k d o h
  obtain ⟨o'', h3, h4⟩ := b.2 k d o' h1
  exact ⟨o'', h3, Nat.le_trans h2 h4⟩⟩
theorem Low.lv {ρ1 ρ : Slots} (l : Low ρ1 ρ) {k : Nat} (h : Lv ρ1 k) : Lv ρ k := by
  obtain ⟨d, o, e⟩ := h
  obtain ⟨o', h1, _⟩ := l.2 k d o e
  exact ⟨d, o', h1⟩
theorem Low.own {ρ1 ρ : Slots} (l : Low ρ1 ρ) {nf : Nat → List Addr} {k : Nat} {a : Addr} (h : Own ρ1 nf k a) : Own ρ nf k a := by
  obtain ⟨d, o, e, h⟩ := h
  obtain ⟨o', h1, h2⟩ := l.2 k d o e
  exact ⟨d, o', h1, h.imp (fun ⟨p, q⟩ => ⟨Nat.le_trans p h2, q⟩) fun ⟨p, q⟩ => ⟨Nat.le_trans p h2, q⟩⟩
theorem slot_some {ρ : Slots} {i : Nat} {x : D × Nat} (h : slot ρ i = some x) : ρ[i]? = some (some x) := by
  unfold slot at h
  cases e : ρ[i]? with
  | none => rw [e] at h; cases h
  | some y =>
    rw [e] at h
    have : y = some x := h
    rw [this]
theorem dg_low : ∀ {is : List Nat} {ρ : Slots}, Low (dg is ρ) ρ ∧ ∀ k d o, k ∈ is → (dg is ρ)[k]? = some (some (d, o)) → d.pure = true ∨ o = 0
  | [], ρ => ⟨.refl, fun k d o h => by simp at h⟩
  | i :: is, ρ => by
    have step : Low (match slot ρ i with | some (d, _) => if d.pure = true then ρ else ρ.set i (some (d, 0)) | none => ρ) ρ ∧ ∀ d o, (match slot ρ i with | some (d, _) => if d.pure = true then ρ else ρ.set i (some (d, 0)) | none => ρ)[i]? = some (some (d, o)) → d.pure = true ∨ o = 0 := by
      cases e : slot ρ i with
      | none => exact ⟨.refl, fun d o h => by
          have h : ρ[i]? = some (some (d, o)) := h
          unfold slot at e
          rw [h] at e; cases e⟩
      | some x =>
        obtain ⟨d, o⟩ := x
        have es := slot_some e
        show Low (if d.pure = true then ρ else ρ.set i (some (d, 0))) ρ ∧ ∀ d' o', (if d.pure = true then ρ else ρ.set i (some (d, 0)))[i]? = some (some (d', o')) → d'.pure = true ∨ o' = 0
        by_cases p : d.pure = true
        · rw [if_pos p]
          exact ⟨.refl, fun d' o' h => by
            rw [es] at h; cases h
            exact .inl p⟩
        · rw [if_neg p]
          have hl : i < ρ.length := (List.getElem?_eq_some_iff.mp es).1
          refine ⟨⟨List.length_set, fun k d' o' h => ?_⟩, fun d' o' h => ?_⟩
          · by_cases hk : i = k
            · subst hk
              rw [List.getElem?_set_self hl] at h; cases h
              exact ⟨o, es, Nat.zero_le _⟩
            · rw [List.getElem?_set_ne hk] at h
              exact ⟨o', h, Nat.le_refl _⟩
          · rw [List.getElem?_set_self hl] at h; cases h
            exact .inr rfl
    obtain ⟨h1, h2⟩ := @dg_low is (match slot ρ i with | some (d, _) => if d.pure = true then ρ else ρ.set i (some (d, 0)) | none => ρ)
    refine ⟨h1.trans step.1, fun k d o hk h => ?_⟩
    by_cases z : k ∈ is
    · exact h2 k d o z h
    · rcases List.mem_cons.mp hk with rfl | hk
      · obtain ⟨o', h3, h4⟩ := h1.2 k d o h
        rcases step.2 d o' h3 with q | q
        · exact .inl q
        · exact .inr (by omega)
      · exact absurd hk z

section
variable {c : Kx} {Wo : Option Addr} {H0 H H' : Hp} {A0 hd : List Addr} {G : Hp → Prop} {nf : Nat → List Addr} {ρ ρ1 : Slots} {w w' : Wl} {σ : L2.St} {v : V} {d : D} {fr o : Nat} {ns : List Addr} {fv : List Nat} {i : Nat} {a : Addr}
theorem Own.mem (h : Own ρ nf i a) : a ∈ nf i ∧ Lv ρ i := by
  obtain ⟨d, o, e, h⟩ := h
  refine ⟨?_, d, o, e⟩
  rcases h with ⟨_, _, m, q⟩ | ⟨_, q⟩
  · rw [q]; simp
  · exact q
theorem Sim.there (S : Sim c Wo H0 A0 hd G nf ρ w σ H) (h : Lv ρ i) (ha : a ∈ nf i) : (∃ xs, H a = some (.lst xs)) ∧ Wo ≠ some a := by
  obtain ⟨d, o, e⟩ := h
  obtain ⟨v, _, r⟩ := S.slot i d o e
  exact Rp.there d r a ha
theorem Sim.step (S : Sim c Wo H0 A0 hd G nf ρ w σ H) (hh : Held hd G) (k : Kp (Ws Wo) H H') (ok : WOk c.toKn Wo w' H') : Sim c Wo H0 A0 hd G nf ρ w' σ H' :=
  ⟨S.toSimE.step k ok, S.kp.trans k, S.org, S.own, S.o1, S.o2, fun a ha => by
    obtain ⟨⟨xs, q⟩, n⟩ := S.hdL a ha
    exact ⟨⟨xs, k.keep a _ q n⟩, n⟩, hh _ _ _ S.g k S.wok.ls fun a ha => (S.hdL a ha).2⟩
theorem Sim.low (S : Sim c Wo H0 A0 hd G nf ρ w σ H) (l : Low ρ1 ρ) : Sim c Wo H0 A0 hd G nf ρ1 w σ H :=
  ⟨⟨fun i d o e => by
      obtain ⟨o', h1, _⟩ := l.2 i d o e
      exact S.slot i d o' h1, S.wok, S.len.trans l.1.symm⟩, S.kp, fun i lv => S.org i (l.lv lv), fun k a h => by
    obtain ⟨h1, h2, h3⟩ := S.own k a (l.own h)
    exact ⟨h1, fun j hj lv => h2 j hj (l.lv lv), h3⟩, fun k d o e ho => by
    obtain ⟨o', h1, h2⟩ := l.2 k d o e
    exact S.o1 k d o' h1 (Nat.le_trans ho h2), fun k d o e ho => by
    obtain ⟨o', h1, h2⟩ := l.2 k d o e
    exact S.o2 k d o' h1 (Nat.le_trans ho h2), S.hdL, S.g⟩
/-- a list that nobody knows -/
def Nw (H0 : Hp) (hd : List Addr) (nf : Nat → List Addr) (ρ : Slots) (a : Addr) : Prop := H0 a = none ∧ (∀ j, Lv ρ j → a ∉ nf j) ∧ a ∉ hd
theorem Sim.nw (S : Sim c Wo H0 A0 hd G nf ρ w σ H) (h : H a = none) : Nw H0 hd nf ρ a :=
  ⟨S.kp.dom a h, (fun j lv hj => by
    obtain ⟨⟨xs, q⟩, _⟩ := S.there lv hj
    rw [h] at q; cases q), (fun hj => by
    obtain ⟨⟨xs, q⟩, _⟩ := S.hdL a hj
    rw [h] at q; cases q)⟩
/-- a value that may be stored -/
structure Vl (c : Kx) (Wo : Option Addr) (H0 : Hp) (A0 hd : List Addr) (nf : Nat → List Addr) (ρ : Slots) (fv : List Nat) (H : Hp) (v : V) (d : D) (fr : Nat) (ns : List Addr) : Prop where
  rp : Rp c.toKn Wo H v d ns
  org : ∀ a ∈ ns, H0 a = none ∨ a ∈ A0
  sep : ∀ a ∈ ns, ∀ k, k ∉ fv → ¬ Own ρ nf k a
  f1 : 1 ≤ fr → ∀ es, d = .lst es → ∀ a m, ns = a :: m → Nw H0 hd nf ρ a ∧ a ∉ m
  f2 : 2 ≤ fr → ns.Nodup ∧ ∀ a ∈ ns, Nw H0 hd nf ρ a
theorem Vl.of (S : Sim c Wo H0 A0 hd G nf ρ w σ H) (r : Res c.toKn Wo nf ρ fv H H' v d fr w' ns) : Vl c Wo H0 A0 hd nf ρ fv H' v d fr ns := by
  refine ⟨r.rp, fun a ha => ?_, fun a ha k hk ow => ?_, fun f es e a m en => ?_, fun f => ⟨(r.f2 f).1, fun a ha => S.nw ((r.f2 f).2 a ha)⟩⟩
  · rcases r.org a ha with z | ⟨i, _, lv, z⟩
    · exact .inl (S.kp.dom a z)
    · exact S.org i lv a z
  · rcases r.org a ha with z | ⟨i, hi, lv, z⟩
    · obtain ⟨⟨xs, q⟩, _⟩ := S.there ow.mem.2 ow.mem.1
      rw [z] at q; cases q
    · exact (S.own k a ow).2.1 i (fun e => hk (e ▸ hi)) lv z
  · exact ⟨S.nw (r.f1 f es e a m en).1, (r.f1 f es e a m en).2⟩
theorem Vl.pure_nil (V : Vl c Wo H0 A0 hd nf ρ fv H v d fr ns) (p : d.pure = true) : ns = [] := Rp.pure_nil d V.rp p
theorem Vl.later (V : Vl c Wo H0 A0 hd nf ρ fv H v d fr ns) (k : Kp (Ws Wo) H H') (o : WOk c.toKn Wo w H) : Vl c Wo H0 A0 hd nf ρ fv H' v d fr ns :=
  ⟨V.rp.kp k o.ls, V.org, V.sep, V.f1, V.f2⟩
theorem Vl.pur (r : Rp c.toKn Wo H v d []) : Vl c Wo H0 A0 hd nf ρ fv H v d fr [] :=
  ⟨r, fun a h => by simp at h, fun a h => by simp at h, fun _ _ _ a m h => by simp at h, fun _ => ⟨List.nodup_nil, fun a h => by simp at h⟩⟩
abbrev nfS (nf : Nat → List Addr) (i : Nat) (ns : List Addr) : Nat → List Addr := fun j => if j = i then ns else nf j
theorem lv_set {x : Option (D × Nat)} {j : Nat} (hj : j ≠ i) : Lv (ρ.set i x) j ↔ Lv ρ j := by
  unfold Lv
  rw [List.getElem?_set_ne (Ne.symm hj)]
theorem get_set_ne {x y : Option (D × Nat)} {j : Nat} (hj : j ≠ i) (h : (ρ.set i x)[j]? = some y) : ρ[j]? = some y := by
  rwa [List.getElem?_set_ne (Ne.symm hj)] at h
theorem get_set_eq {x y : Option (D × Nat)} (h : (ρ.set i x)[i]? = some y) : x = y := by
  by_cases hl : i < ρ.length
  · rw [List.getElem?_set_self hl] at h
    exact Option.some.inj h
  · rw [List.getElem?_eq_none (by rw [List.length_set]; omega)] at h; cases h
theorem own_set {ns : List Addr} {x : Option (D × Nat)} {j : Nat} (hj : j ≠ i) : Own (ρ.set i x) (nfS nf i ns) j a ↔ Own ρ nf j a := by
  unfold Own
  rw [List.getElem?_set_ne (Ne.symm hj)]
  simp only [nfS, if_neg hj]
/-- a value stored in slot i -/
theorem Sim.put (S : Sim c Wo H0 A0 hd G nf ρ w σ H) (i : Nat) (o : Nat) (r : Rp c.toKn Wo H v d ns) (og : ∀ a ∈ ns, H0 a = none ∨ a ∈ A0) (sep : ∀ a ∈ ns, ∀ k, k ≠ i → ¬ Own ρ nf k a)
    (l1 : 1 ≤ o → ∀ es, d = .lst es → ∀ a m, ns = a :: m → (H0 a = none ∧ (∀ j, j ≠ i → Lv ρ j → a ∉ nf j) ∧ a ∉ hd) ∧ a ∉ m)
    (l2 : 2 ≤ o → ns.Nodup ∧ ∀ a ∈ ns, H0 a = none ∧ (∀ j, j ≠ i → Lv ρ j → a ∉ nf j) ∧ a ∉ hd) :
    Sim c Wo H0 A0 hd G (nfS nf i ns) (ρ.set i (some (d, o))) w (σ.set i (some v)) H := by
  refine ⟨S.toSimE.bind r, S.kp, fun j lv a ha => ?_, fun k a h => ?_, fun k d' o' e ho es a m en => ?_, fun k d' o' e ho => ?_, S.hdL, S.g⟩
  · by_cases hj : j = i
    · subst hj
      exact og a (by simpa [nfS] using ha)
    · exact S.org j ((lv_set hj).mp lv) a (by simpa [nfS, hj] using ha)
  · by_cases hk : k = i
    · subst hk
      obtain ⟨d', o', e, h⟩ := h
      have e := get_set_eq e
      cases e
      have hh : H0 a = none ∧ (∀ j, j ≠ k → Lv ρ j → a ∉ nf j) ∧ a ∉ hd := by
        rcases h with ⟨p, ⟨es, q⟩, m, en⟩ | ⟨p, q⟩
        · exact (l1 p es q a m (by simpa [nfS] using en)).1
        · exact (l2 p).2 a (by simpa [nfS] using q)
      refine ⟨hh.1, fun j hj lv => ?_, hh.2.2⟩
      simpa [nfS, hj] using hh.2.1 j hj ((lv_set hj).mp lv)
    · have h' := (own_set hk).mp h
      obtain ⟨h1, h2, h3⟩ := S.own k a h'
      refine ⟨h1, fun j hj lv => ?_, h3⟩
      by_cases hji : j = i
      · subst hji
        intro z
        exact sep a (by simpa [nfS] using z) k hk h'
      · simpa [nfS, hji] using h2 j hj ((lv_set hji).mp lv)
  · by_cases hk : k = i
    · subst hk
      have e := get_set_eq e
      cases e
      obtain ⟨es, q⟩ := es
      exact (l1 ho es q a m (by simpa [nfS] using en)).2
    · exact S.o1 k d' o' (get_set_ne hk e) ho es a m (by simpa [nfS, hk] using en)
  · by_cases hk : k = i
    · subst hk
      have e := get_set_eq e
      cases e
      simpa [nfS] using (l2 ho).1
    · simpa [nfS, hk] using S.o2 k d' o' (get_set_ne hk e) ho
theorem Sim.dgd (S : Sim c Wo H0 A0 hd G nf ρ w σ H) (h : Own (dg fv ρ) nf i a) : i ∉ fv ∧ Own ρ nf i a := by
  obtain ⟨hl, hz⟩ := @dg_low fv ρ
  refine ⟨fun hi => ?_, hl.own h⟩
  obtain ⟨d, o, e, h'⟩ := h
  rcases hz i d o hi e with p | p
  · obtain ⟨o', h1, _⟩ := hl.2 i d o e
    obtain ⟨v, _, r⟩ := S.slot i d o' h1
    have en := Rp.pure_nil d r p
    rcases h' with ⟨_, _, m, q⟩ | ⟨_, q⟩
    · rw [en] at q; cases q
    · rw [en] at q; simp at q
  · rcases h' with ⟨q, _⟩ | ⟨q, _⟩ <;> omega
/-- a value stored by its newness -/
theorem Sim.store (S : Sim c Wo H0 A0 hd G nf ρ w σ H) (i : Nat) (V : Vl c Wo H0 A0 hd nf ρ fv H v d fr ns) : Sim c Wo H0 A0 hd G (nfS nf i ns) (sto fv i d fr ρ) w (σ.set i (some v)) H := by
  unfold sto
  by_cases p : d.pure = true
  · rw [if_pos (.inl p)]
    have en := V.pure_nil p
    subst en
    exact S.put i 2 V.rp V.org (fun a h => by simp at h) (fun _ es _ a m h => by simp at h) (fun _ => ⟨List.nodup_nil, fun a h => by simp at h⟩)
  · by_cases q : fr = 2
    · rw [if_pos (.inr q)]
      subst q
      obtain ⟨nd, nw⟩ := V.f2 (Nat.le_refl _)
      refine S.put i 2 V.rp V.org (fun a h k _ ow => (nw a h).2.1 k ow.mem.2 ow.mem.1) (fun _ es e a m en => ?_) (fun _ => ⟨nd, fun a h => ⟨(nw a h).1, fun j _ lv => (nw a h).2.1 j lv, (nw a h).2.2⟩⟩)
      have na := nw a (by rw [en]; simp)
      rw [en] at nd
      exact ⟨⟨na.1, fun j _ lv => na.2.1 j lv, na.2.2⟩, (List.nodup_cons.mp nd).1⟩
    · rw [if_neg (by simp [p, q])]
      have hl := (@dg_low fv ρ).1
      refine (S.low hl).put i fr V.rp V.org (fun a h k _ ow => ?_) (fun f es e a m en => ?_) (fun f => ?_)
      · obtain ⟨h1, h2⟩ := S.dgd ow
        exact V.sep a h k h1 h2
      · obtain ⟨na, h2⟩ := V.f1 f es e a m en
        exact ⟨⟨na.1, fun j _ lv => na.2.1 j (hl.lv lv), na.2.2⟩, h2⟩
      · obtain ⟨nd, nw⟩ := V.f2 f
        exact ⟨nd, fun a h => ⟨(nw a h).1, fun j _ lv => (nw a h).2.1 j (hl.lv lv), (nw a h).2.2⟩⟩
/-- a list of one's own -/
theorem Sim.own_lst (S : Sim c Wo H0 A0 hd G nf ρ w σ H) {ds : List D} (e : ρ[i]? = some (some (.lst ds, o))) : ∃ a xs m, σ[i]? = some (some (.ref a)) ∧ H a = some (.lst xs) ∧ Wo ≠ some a ∧ nf i = a :: m ∧ RpA c.toKn Wo H xs ds m := by
  obtain ⟨v, h1, r⟩ := S.slot i _ _ e
  generalize hn : nf i = n at r
  cases r with
  | @lst a xs _ m h2 h3 h4 => exact ⟨a, xs, m, h1, h2, h3, rfl, h4⟩
/-- the list at slot i is written -/
theorem Sim.wr (S : Sim c Wo H0 A0 hd G nf ρ w σ H) (hh : Held hd G) {ds ds' : List D} {xs xs' : List V} {m m' : List Addr} {o o' : Nat} (e : ρ[i]? = some (some (.lst ds, o))) (eσ : σ[i]? = some (some (.ref a))) (ea : H a = some (.lst xs)) (en : nf i = a :: m) (h1 : 1 ≤ o)
    (r : RpA c.toKn Wo H xs' ds' m') (na : a ∉ m') (og : ∀ b ∈ m', H0 b = none ∨ b ∈ A0) (sep : ∀ b ∈ m', ∀ k, k ≠ i → ¬ Own ρ nf k b)
    (l2 : 2 ≤ o' → m'.Nodup ∧ ∀ b ∈ m', H0 b = none ∧ (∀ j, j ≠ i → Lv ρ j → b ∉ nf j) ∧ b ∉ hd) :
    Sim c Wo H0 A0 hd G (nfS nf i (a :: m')) (ρ.set i (some (.lst ds', o'))) w σ (upd H a (.lst xs')) := by
  have ow : Own ρ nf i a := ⟨_, o, e, .inl ⟨h1, ⟨ds, rfl⟩, m, en⟩⟩
  obtain ⟨n0, nj, nh⟩ := S.own i a ow
  have lv : Lv ρ i := ⟨_, _, e⟩
  have nW : Wo ≠ some a := (S.there lv ow.mem.1).2
  have kw : Kp [a] H (upd H a (.lst xs')) := .wr ea
  have lA : Ls H [a] := fun b hb => by
    have z : b = a := by simpa using hb
    exact ⟨xs, by rw [z]; exact ea⟩
  have k0 : Kp (Ws Wo) H0 (upd H a (.lst xs')) := ⟨fun b u q nb => by
    rw [upd_ne (ne_of_none q n0)]
    exact S.kp.keep b u q nb, fun b q => by
    by_cases z : b = a
    · rw [z, upd_same] at q; cases q
    · rw [upd_ne z] at q
      exact S.kp.dom b q⟩
  have o' : WOk c.toKn Wo w (upd H a (.lst xs')) := S.wok.keep kw lA fun b q z => by
    have : b = a := by simpa using z
    exact nW (by rw [q, this])
  -- every other slot stands
  have S1 : SimE c.toKn Wo (nfS nf i (a :: m')) (ρ.set i (some (.lst ds', ‹Nat›))) w σ (upd H a (.lst xs')) := by
    refine ⟨fun j d'' o'' q => ?_, o', by rw [List.length_set]; exact S.len⟩
    by_cases hj : j = i
    · subst hj
      have q := get_set_eq q
      cases q
      refine ⟨.ref a, eσ, ?_⟩
      have : nfS nf j (a :: m') j = a :: m' := by simp [nfS]
      rw [this]
      exact .lst upd_same nW (r.keep _ kw lA fun b hb z => na (by
        have : b = a := by simpa using z
        rw [← this]; exact hb))
    · obtain ⟨v, h2, h3⟩ := S.slot j d'' o'' (get_set_ne hj q)
      refine ⟨v, h2, ?_⟩
      have : nfS nf i (a :: m') j = nf j := by simp [nfS, hj]
      rw [this]
      refine h3.keep _ kw lA fun b hb z => nj j hj ⟨_, _, get_set_ne hj q⟩ ?_
      have : b = a := by simpa using z
      rw [← this]; exact hb
  have la : ∀ j, j ≠ i → Lv ρ j → a ∉ nf j := nj
  refine ⟨S1, k0, fun j lv b hb => ?_, fun k b h => ?_, fun k d'' o'' q ho es b m2 q2 => ?_, fun k d'' o'' q ho => ?_, fun b hb => ?_, hh [a] _ _ S.g kw lA fun b hb z => ?_⟩
  · by_cases hj : j = i
    · subst hj
      have hb : b = a ∨ b ∈ m' := by simpa [nfS] using hb
      rcases hb with rfl | hb
      · exact .inl n0
      · exact og b hb
    · exact S.org j ((lv_set hj).mp lv) b (by simpa [nfS, hj] using hb)
  · by_cases hk : k = i
    · subst hk
      obtain ⟨d'', o'', q, h⟩ := h
      have q := get_set_eq q
      cases q
      have hz : H0 b = none ∧ (∀ j, j ≠ k → Lv ρ j → b ∉ nf j) ∧ b ∉ hd := by
        rcases h with ⟨p, _, m2, q⟩ | ⟨p, q⟩
        · have q : a :: m' = b :: m2 := by simpa [nfS] using q
          injection q with q1 q2
          subst q1
          exact ⟨n0, nj, nh⟩
        · have q : b = a ∨ b ∈ m' := by simpa [nfS] using q
          rcases q with rfl | q
          · exact ⟨n0, nj, nh⟩
          · exact (l2 p).2 b q
      refine ⟨hz.1, fun j hj lv => ?_, hz.2.2⟩
      simpa [nfS, hj] using hz.2.1 j hj ((lv_set hj).mp lv)
    · have h' := (own_set hk).mp h
      obtain ⟨h1, h2, h3⟩ := S.own k b h'
      refine ⟨h1, fun j hj lv => ?_, h3⟩
      by_cases hji : j = i
      · subst hji
        intro z
        have z : b = a ∨ b ∈ m' := by simpa [nfS] using z
        rcases z with rfl | z
        · exact la k hk h'.mem.2 h'.mem.1
        · exact sep b z k hk h'
      · simpa [nfS, hji] using h2 j hj ((lv_set hji).mp lv)
  · by_cases hk : k = i
    · subst hk
      have q2 : a :: m' = b :: m2 := by simpa [nfS] using q2
      injection q2 with q1 q3
      subst q1; subst q3
      exact na
    · exact S.o1 k d'' o'' (get_set_ne hk q) ho es b m2 (by simpa [nfS, hk] using q2)
  · by_cases hk : k = i
    · subst hk
      have q := get_set_eq q
      cases q
      have : nfS nf k (a :: m') k = a :: m' := by simp [nfS]
      rw [this]
      exact List.nodup_cons.mpr ⟨na, (l2 ho).1⟩
    · simpa [nfS, hk] using S.o2 k d'' o'' (get_set_ne hk q) ho
  · obtain ⟨⟨ys, q⟩, n⟩ := S.hdL b hb
    refine ⟨⟨ys, ?_⟩, n⟩
    rw [upd_ne (show b ≠ a from fun z => nh (by rw [← z]; exact hb))]
    exact q
  · have : b = a := by simpa using z
    exact nh (this ▸ hb)
end
end Ev

set_option Elab.async false
set_option linter.all false
set_option maxRecDepth 100000
set_option maxHeartbeats 4000000
/-! # EvQ: statements over slots: stores of several values, writes -/
namespace Ev
open PySem PySem.Spec PyProof.Rows L2

section
variable {c : Kx} {Wo : Option Addr} {H0 H H' H1 H2 : Hp} {A0 hd : List Addr} {G : Hp → Prop} {nf : Nat → List Addr} {ρ ρ1 : Slots} {w w' w1 w2 : Wl} {σ : L2.St} {v u : V} {d y : D} {fr fy o : Nat} {ns n2 : List Addr} {fv fv2 : List Nat} {i j : Nat} {a : Addr}
/-- what is new of two values lies apart -/
def Dj (d : D) (fr : Nat) (ns : List Addr) (y : D) (fy : Nat) (n2 : List Addr) : Prop :=
  (1 ≤ fr → (∃ es, d = .lst es) → ∀ a m, ns = a :: m → a ∉ n2) ∧ (2 ≤ fr → ∀ a ∈ ns, a ∉ n2) ∧ (1 ≤ fy → (∃ es, y = .lst es) → ∀ a m, n2 = a :: m → a ∉ ns) ∧ (2 ≤ fy → ∀ a ∈ n2, a ∉ ns)
theorem Dj.of (S : SimE c.toKn Wo nf ρ w σ H) (r1 : Res c.toKn Wo nf ρ fv H H1 v d fr w1 ns) (r2 : Res c.toKn Wo nf ρ fv2 H1 H2 u y fy w2 n2) : Dj d fr ns y fy n2 := by
  have A : ∀ a ∈ ns, H a = none → a ∉ n2 := fun a ha hn z => by
    rcases r2.org a z with q | ⟨i, _, ⟨d', o', e⟩, q⟩
    · obtain ⟨⟨xs, q2⟩, _⟩ := Rp.there d r1.rp a ha
      rw [q] at q2; cases q2
    · obtain ⟨v', _, r⟩ := S.slot i d' o' e
      obtain ⟨⟨xs, q2⟩, _⟩ := Rp.there d' r a q
      rw [hn] at q2; cases q2
  have B : ∀ a, H1 a = none → a ∉ ns := fun a hn z => by
    obtain ⟨⟨xs, q2⟩, _⟩ := Rp.there d r1.rp a z
    rw [hn] at q2; cases q2
  refine ⟨fun f ⟨es, e⟩ a m en => A a (by rw [en]; simp) (r1.f1 f es e a m en).1, fun f a ha => A a ha ((r1.f2 f).2 a ha), fun f ⟨es, e⟩ a m en => B a (r2.f1 f es e a m en).1, fun f a ha => B a ((r2.f2 f).2 a ha)⟩
theorem sto_get {k : Nat} {x : D × Nat} (hk : k ≠ j) (h : (sto fv j y fy ρ)[k]? = some (some x)) : ∃ o', ρ[k]? = some (some (x.1, o')) ∧ x.2 ≤ o' := by
  unfold sto at h
  split at h
  · exact ⟨x.2, get_set_ne hk h, Nat.le_refl _⟩
  · exact (@dg_low fv ρ).1.2 k x.1 x.2 (get_set_ne hk h)
theorem sto_lv {k : Nat} (hk : k ≠ j) (h : Lv (sto fv j y fy ρ) k) : Lv ρ k := by
  obtain ⟨d, o, e⟩ := h
  obtain ⟨o', h1, _⟩ := sto_get hk e
  exact ⟨d, o', h1⟩
theorem sto_own {k : Nat} (hk : k ≠ j) (h : Own (sto fv j y fy ρ) (nfS nf j n2) k a) : Own ρ nf k a := by
  obtain ⟨d, o, e, h⟩ := h
  obtain ⟨o', h1, h2⟩ := sto_get hk e
  refine ⟨d, o', h1, ?_⟩
  simp only [nfS, if_neg hk] at h
  exact h.imp (fun ⟨p, q⟩ => ⟨Nat.le_trans p h2, q⟩) fun ⟨p, q⟩ => ⟨Nat.le_trans p h2, q⟩
theorem sto_at (W : Vl c Wo H0 A0 hd nf ρ fv2 H u y fy n2) (h : Own (sto fv2 j y fy ρ) (nfS nf j n2) j a) : (1 ≤ fy ∧ (∃ es, y = .lst es) ∧ ∃ m, n2 = a :: m) ∨ (2 ≤ fy ∧ a ∈ n2) := by
  have hm : a ∈ n2 := by
    have := h.mem.1
    simpa [nfS] using this
  obtain ⟨d, o, e, h⟩ := h
  unfold sto at e
  split at e
  · rename_i q
    rcases q with p | p
    · rw [W.pure_nil p] at hm; simp at hm
    · exact .inr ⟨by omega, hm⟩
  · have e := get_set_eq e
    cases e
    simpa [nfS] using h
theorem Vl.over (V : Vl c Wo H0 A0 hd nf ρ fv H v d fr ns) (W : Vl c Wo H0 A0 hd nf ρ fv2 H u y fy n2) (D : Dj d fr ns y fy n2) (j : Nat) : Vl c Wo H0 A0 hd (nfS nf j n2) (sto fv2 j y fy ρ) fv H v d fr ns := by
  obtain ⟨D1, D2, D3, D4⟩ := D
  have nw : ∀ a, Nw H0 hd nf ρ a → a ∉ n2 → Nw H0 hd (nfS nf j n2) (sto fv2 j y fy ρ) a := fun a ⟨h1, h2, h3⟩ hn => ⟨h1, fun k lv => by
    by_cases hk : k = j
    · subst hk
      simpa [nfS] using hn
    · simpa [nfS, hk] using h2 k (sto_lv hk lv), h3⟩
  refine ⟨V.rp, V.org, fun a ha k hk ow => ?_, fun f es e a m en => ⟨nw a (V.f1 f es e a m en).1 (D1 f ⟨es, e⟩ a m en), (V.f1 f es e a m en).2⟩, fun f => ⟨(V.f2 f).1, fun a ha => nw a ((V.f2 f).2 a ha) (D2 f a ha)⟩⟩
  by_cases hj : k = j
  · subst hj
    rcases sto_at W ow with ⟨p, q, m, en⟩ | ⟨p, q⟩
    · exact D3 p q a m en ha
    · exact D4 p a q ha
  · exact V.sep a ha k hk (sto_own hj ow)

/-! ### an item stored -/
theorem ixN_lt {n : Nat} {i : Int} {j : Nat} (h : ixN n i = some j) : j < n := (ixN_seq h).2.1
theorem subS_ok (S : Sim c Wo H0 A0 hd G nf ρ w σ H) (hh : Held hd G) (V : Vl c Wo H0 A0 hd nf ρ fv H v d fr ns) {z : Int} {k : Slots → Wl → Prop} (h : subS fv i z d fr ρ w k) :
    ∃ ov, σ[i]? = some (some ov) ∧ rSetL ov (.int z) v H fun H' => ∃ nf' ρ' w', Sim c Wo H0 A0 hd G nf' ρ' w' σ H' ∧ k ρ' w' := by
  unfold subS at h
  cases es : slot ρ i with
  | none => rw [es] at h; exact h.elim
  | some x =>
    obtain ⟨dd, o⟩ := x
    rw [es] at h
    have e := slot_some es
    cases dd with
    | wel =>
      obtain ⟨p, h⟩ := h
      cases hz : ixN w.length z with
      | none => rw [hz] at h; exact h.elim
      | some n =>
        rw [hz] at h
        have h : k ρ (w.set n d) := h
        obtain ⟨ov, h1, r⟩ := S.slot i _ _ e
        generalize nf i = nfi at r
        cases r with
        | @wel a ew =>
          obtain ⟨xs, h2, h3, h4⟩ := S.wok a ew
          have en := V.pure_nil p
          have rv := V.rp
          rw [en] at rv
          refine ⟨.ref a, h1, a, xs, z, n, rfl, rfl, h2, by rw [h3.length]; exact hz, nf, ρ, w.set n d, ?_, h⟩
          have hn := ixN_lt hz
          obtain ⟨m1, r1, hm1, _⟩ := h3.set (i := n) (v := v) hn rv
          have kw : Kp [a] H (upd H a (.lst (xs.set n v))) := .wr h2
          have lA : Ls H [a] := fun b hb => by
            have z : b = a := by simpa using hb
            exact ⟨xs, by rw [z]; exact h2⟩
          have kW : Kp (Ws Wo) H (upd H a (.lst (xs.set n v))) := kw.mono fun b hb => by
            have z : b = a := by simpa using hb
            simp [Ws, ew, z]
          have pw : pureAll (w.set n d) = true := by
            have : ∀ (w : Wl) (n : Nat), pureAll w = true → pureAll (w.set n d) = true := by
              intro w
              induction w with
              | nil => intro n h; simpa using h
              | cons x w ih =>
                intro n h
                simp only [pureAll, Bool.and_eq_true] at h
                cases n with
                | zero => simp [pureAll, p, h.2]
                | succ n => simp [pureAll, h.1, ih n h.2]
            exact this w n h4
          have e1 : m1 = [] := by
            cases m1 with
            | nil => rfl
            | cons b t =>
              rcases hm1 b (by simp) with q | q <;> simp at q
          rw [e1] at r1
          refine S.step hh kW fun b hb => ?_
          rw [ew] at hb; cases hb
          exact ⟨_, upd_same, r1.keep _ kw lA fun b hb => by simp at hb, pw⟩
    | lst ds =>
      obtain ⟨ho, h⟩ := h
      cases hz : ixN ds.length z with
      | none => rw [hz] at h; exact h.elim
      | some n =>
        rw [hz] at h
        have h : putIn fv i (ds.set n d) o d fr ρ fun ρ' => k ρ' w := h
        obtain ⟨a, xs, m, h1, h2, nW, en, r⟩ := S.own_lst e
        have hn := ixN_lt hz
        have ow : Own ρ nf i a := ⟨_, o, e, .inl ⟨ho, ⟨ds, rfl⟩, m, en⟩⟩
        have lv : Lv ρ i := ⟨_, _, e⟩
        have hx : ixN xs.length z = some n := by rw [r.length]; exact hz
        have na0 : a ∉ m := S.o1 i _ _ e ho ⟨ds, rfl⟩ a m en
        have mm : ∀ b ∈ m, b ∈ nf i := fun b hb => by rw [en]; simp [hb]
        obtain ⟨m1, r1, hm1, nd1⟩ := r.set (i := n) (v := v) hn V.rp
        unfold putIn at h
        by_cases pf : d.pure = true ∨ fr = 2
        · rw [if_pos pf] at h
          refine ⟨.ref a, h1, a, xs, z, n, rfl, rfl, h2, hx, _, _, w, S.wr hh (o' := o) e h1 h2 en ho r1 ?_ ?_ ?_ ?_, h⟩
          · intro q
            rcases hm1 a q with q | q
            · exact na0 q
            · rcases pf with p | p
              · rw [V.pure_nil p] at q; simp at q
              · exact ((V.f2 (by omega)).2 a q).2.1 i lv ow.mem.1
          · intro b hb
            rcases hm1 b hb with q | q
            · exact S.org i lv b (mm b q)
            · exact V.org b q
          · intro b hb k hk owk
            rcases hm1 b hb with q | q
            · exact (S.own k b owk).2.1 i (Ne.symm hk) lv (mm b q)
            · rcases pf with p | p
              · rw [V.pure_nil p] at q; simp at q
              · exact ((V.f2 (by omega)).2 b q).2.1 k owk.mem.2 owk.mem.1
          · intro h2o
            have ndi := S.o2 i _ _ e h2o
            rw [en] at ndi
            obtain ⟨_, ndm⟩ := List.nodup_cons.mp ndi
            refine ⟨nd1 ndm ?_ ?_, fun b hb => ?_⟩
            · rcases pf with p | p
              · rw [V.pure_nil p]; exact List.nodup_nil
              · exact (V.f2 (by omega)).1
            · intro b hb q
              rcases pf with p | p
              · rw [V.pure_nil p] at hb; simp at hb
              · exact ((V.f2 (by omega)).2 b hb).2.1 i lv (mm b q)
            · rcases hm1 b hb with q | q
              · exact S.own i b ⟨_, o, e, .inr ⟨h2o, mm b q⟩⟩
              · rcases pf with p | p
                · rw [V.pure_nil p] at q; simp at q
                · obtain ⟨z1, z2, z3⟩ := (V.f2 (by omega)).2 b q
                  exact ⟨z1, fun j _ lv => z2 j lv, z3⟩
        · rw [if_neg pf] at h
          obtain ⟨ni, h⟩ := h
          have hl := (@dg_low fv ρ)
          have Sd := S.low hl.1
          have e' : (dg fv ρ)[i]? = some (some (.lst ds, o)) := by
            have : ∀ (is : List Nat) (ρ : Slots), i ∉ is → (dg is ρ)[i]? = ρ[i]? := by
              intro is
              induction is with
              | nil => intro ρ _; rfl
              | cons q is ih =>
                intro ρ hq
                simp only [List.mem_cons, not_or] at hq
                unfold dg
                rw [ih _ hq.2]
                cases slot ρ q with
                | none => rfl
                | some x =>
                  show (if x.1.pure = true then ρ else ρ.set q (some (x.1, 0)))[i]? = ρ[i]?
                  split
                  · rfl
                  · exact List.getElem?_set_ne (Ne.symm hq.1)
            rw [this fv ρ ni]; exact e
          refine ⟨.ref a, h1, a, xs, z, n, rfl, rfl, h2, hx, _, _, w, Sd.wr hh (o' := min o 1) e' h1 h2 en ho r1 ?_ ?_ ?_ ?_, h⟩
          · intro q
            rcases hm1 a q with q | q
            · exact na0 q
            · exact V.sep a q i ni ow
          · intro b hb
            rcases hm1 b hb with q | q
            · exact S.org i lv b (mm b q)
            · exact V.org b q
          · intro b hb k hk owk
            obtain ⟨z1, z2⟩ := S.dgd owk
            rcases hm1 b hb with q | q
            · exact (S.own k b z2).2.1 i (Ne.symm hk) lv (mm b q)
            · exact V.sep b q k z1 z2
          · intro q
            omega
    | _ => exact h.elim
end
end Ev

set_option Elab.async false
set_option linter.all false
set_option maxRecDepth 100000
set_option maxHeartbeats 4000000
/-! # EvR: the reading of statements -/
namespace Ev
open PySem PySem.Spec PyProof.Rows L2

/-- the wanted ends, brought to heaps -/
structure LiftP (c : Kx) (Wo : Option Addr) (H0 : Hp) (A0 hd : List Addr) (G : Hp → Prop) (P : Po) (D : Ends) : Prop where
  nx : ∀ ρ w, P.nx ρ w → ∀ nf σ H, Sim c Wo H0 A0 hd G nf ρ w σ H → D.nx σ H
  bk : ∀ ρ w, P.bk ρ w → ∀ nf σ H, Sim c Wo H0 A0 hd G nf ρ w σ H → D.bk σ H
  ct : ∀ ρ w, P.ct ρ w → ∀ nf σ H, Sim c Wo H0 A0 hd G nf ρ w σ H → D.ct σ H
  rt : ∀ d fr w, P.rt d fr w → ∀ v ns H, Rp c.toKn Wo H v d ns → Kp (Ws Wo) H0 H → WOk c.toKn Wo w H → (∀ a ∈ ns, H0 a = none ∨ a ∈ A0) →
    (1 ≤ fr → ∀ es, d = .lst es → ∀ a m, ns = a :: m → H0 a = none ∧ a ∉ m) → (2 ≤ fr → ns.Nodup ∧ ∀ a ∈ ns, H0 a = none) → D.rt v H
def LiftS (c : Kx) (Wo : Option Addr) (H0 : Hp) (A0 : List Addr) (E : XQ) (Wx : WX) : Prop :=
  ∀ g od w', E g od w' → ∀ dx σ H', Kp (Ws Wo) H0 H' → WOk c.toKn Wo w' H' → ExcAt c Wo H' g od dx (fun a => H0 a = none ∨ a ∈ A0) → Wx (.ref (c.ca g)) dx σ H'
theorem LiftS.x {c : Kx} {Wo : Option Addr} {H0 H : Hp} {A0 hd : List Addr} {G : Hp → Prop} {nf : Nat → List Addr} {ρ : Slots} {w : Wl} {E : XQ} {Wx : WX} {σ : L2.St} (l : LiftS c Wo H0 A0 E Wx) (S : Sim c Wo H0 A0 hd G nf ρ w σ H) : LiftX c Wo nf ρ σ H E Wx :=
  fun g od w' e dx H' k' o' x => l g od w' e dx σ H' (S.kp.trans k') o' (x.imp fun b h => h.elim (fun z => .inl (S.kp.dom b z)) fun ⟨i, lv, hi⟩ => S.org i lv b hi)
abbrev SemS (c : Kx) (Wx : WX) (t : TS) (P : Slots → Wl → Po → XQ → Prop) : Prop :=
  ∀ Wo H0 A0 hd G nf ρ w σ H Pp E D, Held hd G → Sim c Wo H0 A0 hd G nf ρ w σ H → LiftP c Wo H0 A0 hd G Pp D → LiftS c Wo H0 A0 E Wx → P ρ w Pp E → t D σ H
def SS (c : Kx) (X : Cx) (Wx : WX) (s : Stmt) (P : Slots → Wl → Po → XQ → Prop) : Prop := ∃ t, PS X s t ∧ SemS c Wx t P
def SSs (c : Kx) (X : Cx) (Wx : WX) (s : List Stmt) (P : Slots → Wl → Po → XQ → Prop) : Prop := ∃ t, PSs X s t ∧ SemS c Wx t P
/-- an expression from a body's slots -/
theorem SemE.go {c : Kx} {Wx : WX} {t : TE} {fv : List Nat} {P : Slots → Wl → KE → XQ → Prop} (h : SemE c Wx t fv P) {Wo : Option Addr} {H0 H : Hp} {A0 hd : List Addr} {G : Hp → Prop} {nf : Nat → List Addr} {ρ : Slots} {w : Wl} {σ : L2.St} {K : KE} {E : XQ} {Q : VK} (hh : Held hd G)
    (S : Sim c Wo H0 A0 hd G nf ρ w σ H) (lx : LiftS c Wo H0 A0 E Wx) (p : P ρ w K E) (q : ∀ d fr w', K d fr w' → ∀ v ns H', Res c.toKn Wo nf ρ fv H H' v d fr w' ns → Sim c Wo H0 A0 hd G nf ρ w' σ H' → Q v H') : t σ H Q :=
  h Wo nf ρ w σ H K E Q S.toSimE (fun d fr w' k v ns H' r => q d fr w' k v ns H' r (S.step hh r.kp r.wok)) (lx.x S) p

section
variable {c : Kx} {X : Cx} {Wx : WX} {T : Tab} {e e1 e2 e3 : Expr} {s : Stmt} {ss ss2 : List Stmt} {pos spos : Pos} {x x1 x2 x3 : Ex} {i j l : Nat}
theorem sss_nil : SSs c X Wx [] (wSs T .nil) := ⟨tNext, pss_nil, fun Wo H0 A0 hd G nf ρ w σ H Pp E D hh S lp lx p => lp.nx _ _ p nf σ H S⟩
theorem sss_cons {y : Sm} {ys : Sms} (h : SS c X Wx s (wS T y)) (hs : SSs c X Wx ss (wSs T ys)) : SSs c X Wx (s :: ss) (wSs T (.cons y ys)) := by
  obtain ⟨t, pt, ht⟩ := h
  obtain ⟨u, pu, hu⟩ := hs
  refine ⟨_, pss_cons pt pu, fun Wo H0 A0 hd G nf ρ w σ H Pp E D hh S lp lx p => ?_⟩
  unfold wSs at p
  exact ht Wo H0 A0 hd G nf ρ w σ H { Pp with nx := fun ρ' w' => wSs T ys ρ' w' Pp E } E _ hh S ⟨fun ρ' w' q nf' σ' H' S' => hu Wo H0 A0 hd G nf' ρ' w' σ' H' Pp E D hh S' lp lx q, lp.bk, lp.ct, lp.rt⟩ lx p
/-- code that is not reached -/
theorem ss_never : SS c X Wx s (wS T .never) := ⟨tNever, ps_never, fun Wo H0 A0 hd G nf ρ w σ H Pp E D hh S lp lx p => p⟩
theorem ss_pas : SS c X Wx (.Pass pos) (wS T .pas) := ⟨tNext, ps_pass, fun Wo H0 A0 hd G nf ρ w σ H Pp E D hh S lp lx p => lp.nx _ _ p nf σ H S⟩
theorem ss_doc {z : Str} {j pos' pos} : SS c X Wx (.Expr (.Constant (.str z) j pos') pos) (wS T .pas) := ⟨tNext, ps_doc, fun Wo H0 A0 hd G nf ρ w σ H Pp E D hh S lp lx p => lp.nx _ _ p nf σ H S⟩
theorem ss_brk : SS c X Wx (.Break pos) (wS T .brk) := ⟨tBreak, ps_break, fun Wo H0 A0 hd G nf ρ w σ H Pp E D hh S lp lx p => lp.bk _ _ p nf σ H S⟩
theorem ss_cnt : SS c X Wx (.Continue pos) (wS T .cnt) := ⟨tCont, ps_continue, fun Wo H0 A0 hd G nf ρ w σ H Pp E D hh S lp lx p => lp.ct _ _ p nf σ H S⟩

/-! ### one name -/
/-- a value bound to a name, by whatever road -/
def SSet (c : Kx) (X : Cx) (Wx : WX) (s : Stmt) (i : Nat) (fv : List Nat) (P : Slots → Wl → KE → XQ → Prop) : Prop := ∃ t, PS X s (tAsg t (gName i)) ∧ SemE c Wx t fv P
def noComp : Expr → Bool
  | .ListComp .. => false
  | .SetComp .. => false
  | .DictComp .. => false
  | _ => true
theorem sw_no {t : Option Expr} {l : Nat} {env : Env} (h : noComp e = true) : swapsWith e t l env = pure false := by
  cases e <;> first
    | rfl
    | cases h
theorem sole_no {t : Expr} {l : Nat} {env : Env} (h : noComp e = true) : swapsWithSole [t] e l env = pure false := by
  unfold swapsWithSole
  exact sw_no h
theorem sset_of {y : Str} {py : Pos} {fv : List Nat} {P : Slots → Wl → KE → XQ → Prop} (hN : X.N.Nodup) (hi : X.N[i]? = some y) (hx : Loc X.env.scope y) (hf : X.fn y = true ∨ X.env.scope.names.lookup y = some .local) (hc : noComp e = true) (h : SE c X Wx e fv P) :
    SSet c X Wx (.Assign [.Name y py] e spos) i fv P := by
  obtain ⟨t, pt, ht⟩ := h
  exact ⟨t, ps_set hN hi hx pt (sw_no hc) hf, ht⟩
theorem ss_set (h : SSet c X Wx s i (fvE x) (wE T x)) : SS c X Wx s (wS T (.set i x)) := by
  obtain ⟨t, pt, ht⟩ := h
  refine ⟨_, pt, fun Wo H0 A0 hd G nf ρ w σ H Pp E D hh S lp lx p => ?_⟩
  unfold wS at p
  refine SemE.go ht hh S lx p fun d fr w' k v ns H' r S' => ?_
  exact lp.nx _ _ k _ _ _ (S'.store i (Vl.of S r))

/-! ### two, three names -/
theorem sw_swapped2 {a b y1 y2 : Str} {p1 p2 pt pt2 : Pos} {k1 k2 : Nat} {env : Env} {l : Nat} : swapsWithSole [.Tuple [.Name y1 p1, .Name y2 p2] k1 pt] (.Tuple [e1, e2] k2 pt2) l env = pure false := rfl
theorem ss_par {y1 y2 : Str} {p1 p2 pt pt2 : Pos} {k1 k2} (hc : X.calm = true) (hN : X.N.Nodup) (hi : X.N[i]? = some y1) (hj : X.N[j]? = some y2) (hij : i ≠ j)
    (hx : X.env.scope.names.lookup y1 = some .local) (hy : X.env.scope.names.lookup y2 = some .local) (hs1 : noStar e1 = true) (hs2 : noStar e2 = true)
    (hw : swappedStores [.Tuple [.Name y1 p1, .Name y2 p2] k1 pt] (.Tuple [e1, e2] k2 pt2) X.env = pure (some [y1, y2]))
    (h1 : SE c X Wx e1 (fvE x1) (wE T x1)) (h2 : SE c X Wx e2 (fvE x2) (wE T x2)) : SS c X Wx (.Assign [.Tuple [.Name y1 p1, .Name y2 p2] k1 pt] (.Tuple [e1, e2] k2 pt2) spos) (wS T (.par i j x1 x2)) := by
  obtain ⟨t1, pt1, ht1⟩ := h1
  obtain ⟨t2, pt2, ht2⟩ := h2
  refine ⟨_, ps_par hc hN hi hj hij hx hy (pa_cons pt1 (pa_cons pt2 pa_nil (star_cons hs2)) (star_cons hs1)) hw rfl, fun Wo H0 A0 hd G nf ρ w σ H Pp E D hh S lp lx p => ?_⟩
  unfold wS at p
  refine SemE.go ht1 hh S lx p fun d1 f1 w1 k1 v1 n1 H1 r1 S1 => ?_
  refine SemE.go ht2 hh S1 lx k1 fun d2 f2 w2 k2 v2 n2 H2 r2 S2 => ?_
  refine ⟨v1, v2, rfl, ?_⟩
  have V1 := Vl.of S (r1.later r2.kp r2.wok)
  have V2 := Vl.of S1 r2
  have := (S2.store j V2).store i (V1.over V2 (Dj.of S.toSimE r1 r2) j)
  rw [List.set_comm _ _ (Ne.symm hij)] at this
  exact lp.nx _ _ k2 _ _ _ this
theorem ss_par3 {y1 y2 y3 : Str} {p1 p2 p3 pt pt2 : Pos} {k1 k2} (hc : X.calm = true) (hN : X.N.Nodup) (hi : X.N[i]? = some y1) (hj : X.N[j]? = some y2) (hl : X.N[l]? = some y3) (hij : i ≠ j) (hil : i ≠ l) (hjl : j ≠ l)
    (hx : X.env.scope.names.lookup y1 = some .local) (hy : X.env.scope.names.lookup y2 = some .local) (hz : X.env.scope.names.lookup y3 = some .local) (hs1 : noStar e1 = true) (hs2 : noStar e2 = true) (hs3 : noStar e3 = true)
    (hw : swappedStores [.Tuple [.Name y1 p1, .Name y2 p2, .Name y3 p3] k1 pt] (.Tuple [e1, e2, e3] k2 pt2) X.env = pure (some [y1, y2, y3]))
    (h1 : SE c X Wx e1 (fvE x1) (wE T x1)) (h2 : SE c X Wx e2 (fvE x2) (wE T x2)) (h3 : SE c X Wx e3 (fvE x3) (wE T x3)) : SS c X Wx (.Assign [.Tuple [.Name y1 p1, .Name y2 p2, .Name y3 p3] k1 pt] (.Tuple [e1, e2, e3] k2 pt2) spos) (wS T (.par3 i j l x1 x2 x3)) := by
  obtain ⟨t1, pt1, ht1⟩ := h1
  obtain ⟨t2, pt2, ht2⟩ := h2
  obtain ⟨t3, pt3, ht3⟩ := h3
  refine ⟨_, ps_par3 hc hN hi hj hl hij hil hjl hx hy hz (pa_cons pt1 (pa_cons pt2 (pa_cons pt3 pa_nil (star_cons hs3)) (star_cons hs2)) (star_cons hs1)) hw rfl, fun Wo H0 A0 hd G nf ρ w σ H Pp E D hh S lp lx p => ?_⟩
  unfold wS at p
  refine SemE.go ht1 hh S lx p fun d1 f1 w1 k1 v1 n1 H1 r1 S1 => ?_
  refine SemE.go ht2 hh S1 lx k1 fun d2 f2 w2 k2 v2 n2 H2 r2 S2 => ?_
  refine SemE.go ht3 hh S2 lx k2 fun d3 f3 w3 k3 v3 n3 H3 r3 S3 => ?_
  refine ⟨v1, v2, v3, rfl, ?_⟩
  have r12 := r1.later r2.kp r2.wok
  have r123 := r12.later r3.kp r3.wok
  have r23 := r2.later r3.kp r3.wok
  have V1 := Vl.of S r123
  have V2 := Vl.of S1 r23
  have V3 := Vl.of S2 r3
  have T3 := S3.store l V3
  have V2' := V2.over V3 (Dj.of S1.toSimE r2 r3) l
  have V1' := V1.over V3 (Dj.of S.toSimE r12 r3) l
  have T2 := T3.store j V2'
  have := T2.store i (V1'.over V2' (Dj.of S.toSimE r1 (Res.later r2 r3.kp r3.wok)) j)
  have e : ((σ.set i (some v1)).set j (some v2)).set l (some v3) = ((σ.set l (some v3)).set j (some v2)).set i (some v1) := by
    rw [List.set_comm _ _ hij, List.set_comm _ _ hil, List.set_comm _ _ hjl]
  show D.nx (((σ.set i (some v1)).set j (some v2)).set l (some v3)) H3
  rw [e]
  exact lp.nx _ _ k3 _ _ _ this

/-! ### items -/
def noSlc : Expr → Bool
  | .Slice .. => false
  | _ => true
theorem aug_plain {ix : Expr} (h : noSlc ix = true) : ∀ ov iv new, augStore ix ov iv new = (do holding [new, ov, iv] (setItem ov iv new); release [new, ov, iv] []; pure .next) := by
  cases ix <;> first
    | (intro _ _ _; rfl)
    | cases h
theorem ass_plain {o ix : Expr} {env : Env} {pos : Pos} (h : noSlc ix = true) : ∀ v, assign (.Subscript o ix pos) env v = (do
      let ov ← holding [v] (eval o env)
      let iv ← holding [v, ov] (eval ix env)
      standAt pos
      holding [v, ov, iv] (setItem ov iv v)
      release [v, ov, iv] []) := by
  cases ix <;> first
    | (intro _; rfl)
    | cases h
structure VarOk (X : Cx) (i : Nat) (y : Str) : Prop where
  N : X.N[i]? = some y
  vis : Vis X.env.scope y
  db : (y == ("__debug__" : Str)) = false
  cd : (y == ("__classdict__" : Str)) = false
theorem ss_sub {y : Str} {py ps : Pos} {ix : Expr} {xi : Ex} (hv : VarOk X i y) (hc : noComp e = true) (hsl : noSlc ix = true) (he : SE c X Wx e (fvE x) (wE T x)) (hi : SE c X Wx ix (fvE xi) (wE T xi)) :
    SS c X Wx (.Assign [.Subscript (.Name y py) ix ps] e spos) (wS T (.sub i xi x)) := by
  obtain ⟨te, pe, hte⟩ := he
  obtain ⟨ti, pi, hti⟩ := hi
  refine ⟨_, ps_asg pe (pg_sub (pe_var (pos := py) hv.N hv.vis hv.db hv.cd) pi set_list (ass_plain hsl)) (sole_no hc) (by rfl) (by rfl), fun Wo H0 A0 hd G nf ρ w σ H Pp E D hh S lp lx p => ?_⟩
  unfold wS at p
  refine SemE.go hte hh S lx p fun d fr w1 k v ns H1 r S1 => ?_
  obtain ⟨hsome, k⟩ := k
  obtain ⟨sl, hsl'⟩ := Option.isSome_iff_exists.mp hsome
  obtain ⟨dd, oo⟩ := sl
  obtain ⟨ov, ho, _⟩ := S1.slot i _ _ (slot_some hsl')
  refine ⟨ov, ho, ?_⟩
  refine SemE.go hti hh S1 lx k fun d2 f2 w2 k2 v2 n2 H2 r2 S2 => ?_
  cases d2 with
  | int z =>
    have k2 : subS (fvE x) i z d fr ρ w2 Pp.nx := k2
    have rp2 := r2.rp
    cases rp2
    have V := (Vl.of S r).later r2.kp r.wok
    obtain ⟨ov', ho', hset⟩ := subS_ok S2 hh V k2
    rw [ho] at ho'
    cases ho'
    obtain ⟨p', xs, kk, jj, e1, e2, e3, e4, nf', ρ', w', S', kf⟩ := hset
    exact ⟨p', xs, kk, jj, e1, e2, e3, e4, lp.nx _ _ kf _ _ _ S'⟩
  | _ => exact k2.elim
/-- x[i], by values: of a list -/
theorem get_list : PGet X (rIxL X.K) := by
  intro pins s σ H x y v u Q I rx ry h
  obtain ⟨p, xs, i, z, rfl, rfl, hq, he, q⟩ := h
  cases rx
  obtain ⟨t, rfl⟩ := ry
  obtain ⟨its, r, pl, hz⟩ := I.list hq
  obtain ⟨j, h1, h2, h3, h4, h5⟩ := atI_get he
  obtain ⟨w, ew, rw'⟩ := r.get h2
  have hl := r.length
  have hn := line63
  have fin : EP X pins σ Q w s := ⟨z, H, I, rw', q⟩
  by_cases h0 : 0 ≤ i
  · have hj : i.toNat = j := by
      rw [seqIndex_of h0 h5] at h1
      exact Option.some.inj h1
    exact wpAny_getItem_list pl.isList h0 (by omega) (by rw [hj]; simpa using ew) fin
  · have hj : (i + (its.toArray.size : Int)).toNat = j := by
      rw [seqIndex_neg (by omega) h4] at h1
      rw [List.size_toArray, ← hl]
      exact Option.some.inj h1
    exact wpAny_getItem_list_neg pl.isList (by omega) (by rw [List.size_toArray] <;> omega) (by omega) (by rw [hj]; simpa using ew) fin
def augOp (neg : Bool) : Operator := if neg = true then .Sub else .Add
def augF (neg : Bool) (i j : Int) : Int := if neg = true then i - j else i + j
theorem ip_aug {neg : Bool} : PIp X (augOp neg) (ipI (augF neg)) := by
  cases neg
  · exact ip_add
  · exact ip_sub
theorem rp_int {Wo : Option Addr} {H : Hp} {v : V} {z : Int} {ns : List Addr} (r : Rp c.toKn Wo H v (.int z) ns) : v = .int z ∧ ns = [] := by cases r; exact ⟨rfl, rfl⟩
theorem asb_core {y : Str} {py ps : Pos} {ix : Expr} {xi : Ex} {neg : Bool} (hK : X.K = c.K) (hv : VarOk X i y) (hsl : noSlc ix = true) (he : SE c X Wx e (fvE x) (wE T x)) (hi : SE c X Wx ix (fvE xi) (wE T xi)) :
    SS c X Wx (.AugAssign (.Subscript (.Name y py) ix ps) (augOp neg) e spos) (wS T (.asb i neg xi x)) := by
  obtain ⟨te, pe, hte⟩ := he
  obtain ⟨ti, pi, hti⟩ := hi
  refine ⟨_, ps_augS (pe_var (pos := py) hv.N hv.vis hv.db hv.cd) pi get_list pe ip_aug set_list (aug_plain hsl), fun Wo H0 A0 hd G nf ρ w σ H Pp E D hh S lp lx p => ?_⟩
  unfold wS at p
  have fin : ∀ (w1 : Wl) (H1 : Hp) (z : Int) (a : Int), Sim c Wo H0 A0 hd G nf ρ w1 σ H1 → (∃ v, σ[i]? = some (some v) ∧ ∃ q xs u, v = .ref q ∧ SqL X.K H1 q xs ∧ atI xs z = some u ∧ u = .int a) →
      wE T x ρ w1 (fun d _ w2 => asI d fun b => subS [] i z (.int (if neg = true then a - b else a + b)) 2 ρ w2 Pp.nx) E →
      ∀ v, σ[i]? = some (some v) → rIxL X.K v (.int z) H1 fun x0 H3 => te σ H3 fun y H4 => ipI (augF neg) x0 y H4 fun z' H5 => rSetL v (.int z) z' H5 fun H6 => D.nx σ H6 := by
    rintro w1 H1 z a S1 ⟨v0, hv0, q, xs, u, rfl, hq, hat, rfl⟩ k v hv'
    rw [hv0] at hv'
    cases hv'
    refine ⟨q, xs, z, .int a, rfl, rfl, hq, hat, ?_⟩
    refine SemE.go hte hh S1 lx k fun d f w2 k2 v2 n2 H2 r2 S2 => ?_
    cases d with
    | int b =>
      obtain ⟨rfl, rfl⟩ := rp_int r2.rp
      refine ⟨a, b, rfl, rfl, ?_⟩
      obtain ⟨ov', ho', p', xs', kk, jj, e1, e2, e3, e4, nf', ρ', w', S', kf⟩ := subS_ok S2 hh (Vl.pur (.int _)) k2
      rw [hv0] at ho'
      cases ho'
      exact ⟨p', xs', kk, jj, e1, e2, e3, e4, lp.nx _ _ kf _ _ _ S'⟩
    | _ => exact k2.elim
  cases es : slot ρ i with
  | none => rw [es] at p; exact p.elim
  | some sl =>
    obtain ⟨dd, o⟩ := sl
    rw [es] at p
    have e' := slot_some es
    cases dd with
    | wel =>
      obtain ⟨v, h1, r⟩ := S.slot i _ _ e'
      refine ⟨v, h1, SemE.go hti hh S lx p fun d2 f2 w2 k2 v2 n2 H2 r2 S2 => ?_⟩
      cases d2 with
      | int z =>
        obtain ⟨rfl, rfl⟩ := rp_int r2.rp
        have k2 : match atI w2 z with | some (.int a) => _ | _ => False := k2
        cases hat : atI w2 z with
        | none => rw [hat] at k2; exact k2.elim
        | some da =>
          rw [hat] at k2
          cases da with
          | int a =>
            refine fin w2 H2 z a S2 ?_ k2 v h1
            generalize nf i = nfi at r
            cases r with
            | @wel q ew =>
              obtain ⟨xs, g1, g2, g3⟩ := S2.wok q ew
              unfold atI at hat
              cases hz : ixN w2.length z with
              | none => rw [hz] at hat; cases hat
              | some n =>
                rw [hz] at hat
                obtain ⟨u, n1, gu1, gu2, _⟩ := g2.get (i := n) hat
                cases gu2
                refine ⟨_, h1, q, xs, _, rfl, .inl (.inl g1), ?_, rfl⟩
                unfold atI
                rw [g2.length, hz]
                exact gu1
          | _ => exact k2.elim
      | _ => exact k2.elim
    | lst ds =>
      obtain ⟨q, xs, m, h1, h2, nW, en, r⟩ := S.own_lst e'
      refine ⟨_, h1, SemE.go hti hh S lx p fun d2 f2 w2 k2 v2 n2 H2 r2 S2 => ?_⟩
      cases d2 with
      | int z =>
        obtain ⟨rfl, rfl⟩ := rp_int r2.rp
        have k2 : match atI ds z with | some (.int a) => _ | _ => False := k2
        cases hat : atI ds z with
        | none => rw [hat] at k2; exact k2.elim
        | some da =>
          rw [hat] at k2
          cases da with
          | int a =>
            refine fin w2 H2 z a S2 ?_ k2 _ h1
            obtain ⟨q', xs', m', g1, g2, _, _, g5⟩ := S2.own_lst e'
            rw [h1] at g1
            cases g1
            unfold atI at hat
            cases hz : ixN ds.length z with
            | none => rw [hz] at hat; cases hat
            | some n =>
              rw [hz] at hat
              obtain ⟨u, n1, gu1, gu2, _⟩ := g5.get (i := n) hat
              cases gu2
              refine ⟨_, h1, q, xs', _, rfl, .inl (.inl g2), ?_, rfl⟩
              unfold atI
              rw [g5.length, hz]
              exact gu1
          | _ => exact k2.elim
      | _ => exact k2.elim
    | _ => exact p.elim
/-- name += e -/
theorem ss_aug {y : Str} {py : Pos} {neg : Bool} (hN : X.N.Nodup) (hi : X.N[i]? = some y) (hx : Loc X.env.scope y) (hf : X.fn y = true ∨ X.env.scope.names.lookup y = some .local) (he : SE c X Wx e (fvE x) (wE T x)) :
    SS c X Wx (.AugAssign (.Name y py) (augOp neg) e spos) (wS T (.aug i neg x)) := by
  obtain ⟨te, pe, hte⟩ := he
  refine ⟨_, ps_aug hN hi hx pe ip_aug hf, fun Wo H0 A0 hd G nf ρ w σ H Pp E D hh S lp lx p => ?_⟩
  unfold wS at p
  cases es : slot ρ i with
  | none => rw [es] at p; exact p.elim
  | some sl =>
    obtain ⟨dd, o⟩ := sl
    rw [es] at p
    have e' := slot_some es
    cases dd with
    | int a =>
      obtain ⟨v, h1, r⟩ := S.slot i _ _ e'
      obtain ⟨rfl, _⟩ := rp_int r
      refine ⟨_, h1, SemE.go hte hh S lx p fun d2 f2 w2 k2 v2 n2 H2 r2 S2 => ?_⟩
      cases d2 with
      | int b =>
        obtain ⟨rfl, rfl⟩ := rp_int r2.rp
        refine ⟨a, b, rfl, rfl, lp.nx _ _ k2 _ _ _ (S2.put i 2 (.int _) (fun b hb => ?_) (fun b hb => ?_) (fun _ es q => nomatch q) fun _ => ⟨List.nodup_nil, fun b hb => ?_⟩)⟩
        all_goals simp at hb
      | _ => exact k2.elim
    | _ => exact p.elim
end
end Ev

set_option Elab.async false
set_option linter.all false
set_option maxRecDepth 100000
set_option maxHeartbeats 4000000
/-! # EvS: append, return, if, loops -/
namespace Ev
open PySem PySem.Spec PyProof.Rows L2

section
variable {c : Kx} {Wo : Option Addr} {H0 H H' H1 H2 : Hp} {A0 hd : List Addr} {G : Hp → Prop} {nf : Nat → List Addr} {ρ ρ1 : Slots} {w w' w1 w2 : Wl} {σ : L2.St} {v u : V} {d y : D} {fr fy o : Nat} {ns n2 : List Addr} {fv fv2 : List Nat} {i j : Nat} {a : Addr}
theorem dg_get : ∀ (is : List Nat) (ρ : Slots), i ∉ is → (dg is ρ)[i]? = ρ[i]? := by
  intro is
  induction is with
  | nil => intro ρ _; rfl
  | cons q is ih =>
    intro ρ hq
    simp only [List.mem_cons, not_or] at hq
    unfold dg
    rw [ih _ hq.2]
    cases slot ρ q with
    | none => rfl
    | some x =>
      show (if x.1.pure = true then ρ else ρ.set q (some (x.1, 0)))[i]? = ρ[i]?
      split
      · rfl
      · exact List.getElem?_set_ne (Ne.symm hq.1)
/-- a value appended to the list at slot i -/
theorem app_ok (S : Sim c Wo H0 A0 hd G nf ρ w σ H) (hh : Held hd G) (V : Vl c Wo H0 A0 hd nf ρ fv H v d fr ns) {ds : List D} {k : Slots → Prop} (e : ρ[i]? = some (some (.lst ds, o))) (ho : 1 ≤ o) (h : putIn fv i (ds ++ [d]) o d fr ρ k) :
    ∃ a xs, σ[i]? = some (some (.ref a)) ∧ H a = some (.lst xs) ∧ xs.length = ds.length ∧ ∃ nf' ρ', Sim c Wo H0 A0 hd G nf' ρ' w σ (upd H a (.lst (xs ++ [v]))) ∧ k ρ' := by
  obtain ⟨a, xs, m, h1, h2, nW, en, r⟩ := S.own_lst e
  have ow : Own ρ nf i a := ⟨_, o, e, .inl ⟨ho, ⟨ds, rfl⟩, m, en⟩⟩
  have lv : Lv ρ i := ⟨_, _, e⟩
  have na0 : a ∉ m := S.o1 i _ _ e ho ⟨ds, rfl⟩ a m en
  have mm : ∀ b ∈ m, b ∈ nf i := fun b hb => by rw [en]; simp [hb]
  have r1 := r.append (RpA.one V.rp)
  refine ⟨a, xs, h1, h2, r.length, ?_⟩
  unfold putIn at h
  by_cases pf : d.pure = true ∨ fr = 2
  · rw [if_pos pf] at h
    have nwn : ∀ b ∈ ns, Nw H0 hd nf ρ b := fun b q => by
      rcases pf with p | p
      · rw [V.pure_nil p] at q; simp at q
      · exact (V.f2 (by omega)).2 b q
    refine ⟨_, _, S.wr hh (o' := o) e h1 h2 en ho r1 ?_ ?_ ?_ ?_, h⟩
    · intro q
      rcases List.mem_append.mp q with q | q
      · exact na0 q
      · exact (nwn a q).2.1 i lv ow.mem.1
    · intro b hb
      rcases List.mem_append.mp hb with q | q
      · exact S.org i lv b (mm b q)
      · exact V.org b q
    · intro b hb k hk owk
      rcases List.mem_append.mp hb with q | q
      · exact (S.own k b owk).2.1 i (Ne.symm hk) lv (mm b q)
      · exact (nwn b q).2.1 k owk.mem.2 owk.mem.1
    · intro h2o
      have ndi := S.o2 i _ _ e h2o
      rw [en] at ndi
      obtain ⟨_, ndm⟩ := List.nodup_cons.mp ndi
      refine ⟨List.nodup_append.mpr ⟨ndm, ?_, fun b hb b' hb' e' => ?_⟩, fun b hb => ?_⟩
      · rcases pf with p | p
        · rw [V.pure_nil p]; exact List.nodup_nil
        · exact (V.f2 (by omega)).1
      · subst e'
        exact (nwn b hb').2.1 i lv (mm b hb)
      · rcases List.mem_append.mp hb with q | q
        · exact S.own i b ⟨_, o, e, .inr ⟨h2o, mm b q⟩⟩
        · obtain ⟨z1, z2, z3⟩ := nwn b q
          exact ⟨z1, fun j _ lv => z2 j lv, z3⟩
  · rw [if_neg pf] at h
    obtain ⟨ni, h⟩ := h
    have hl := (@dg_low fv ρ)
    have Sd := S.low hl.1
    have e' : (dg fv ρ)[i]? = some (some (.lst ds, o)) := by rw [dg_get fv ρ ni]; exact e
    refine ⟨_, _, Sd.wr hh (o' := min o 1) e' h1 h2 en ho r1 ?_ ?_ ?_ ?_, h⟩
    · intro q
      rcases List.mem_append.mp q with q | q
      · exact na0 q
      · exact V.sep a q i ni ow
    · intro b hb
      rcases List.mem_append.mp hb with q | q
      · exact S.org i lv b (mm b q)
      · exact V.org b q
    · intro b hb k hk owk
      obtain ⟨z1, z2⟩ := S.dgd owk
      rcases List.mem_append.mp hb with q | q
      · exact (S.own k b z2).2.1 i (Ne.symm hk) lv (mm b q)
      · exact V.sep b q k z1 z2
    · intro q
      omega
/-- a target's names bound to what a loop holds -/
theorem Sim.binds (S : Sim c Wo H0 A0 hd G nf ρ w σ H) {is : List Nat} {n : List Addr} {ρ' : Slots} {σ' : L2.St} {nf' : Nat → List Addr} (B : Bnd c Wo nf ρ w σ H is n ρ' σ' nf') (hn : ∀ a ∈ n, a ∈ hd ∧ (H0 a = none ∨ a ∈ A0)) : Sim c Wo H0 A0 hd G nf' ρ' w σ' H := by
  have out : ∀ {k d o}, k ∉ is → ρ'[k]? = some (some (d, o)) → ρ[k]? = some (some (d, o)) := fun hk e => by rw [← B.outS _ hk]; exact e
  have inn : ∀ {k a}, k ∈ is → Lv ρ' k → a ∈ nf' k → a ∈ n := fun {k a} hk lv ha => by
    obtain ⟨d, o, e⟩ := lv
    refine B.inL k hk ?_ a ha
    rw [← B.lenS]
    exact (List.getElem?_eq_some_iff.mp e).1
  refine ⟨B.sim, S.kp, fun i lv a ha => ?_, fun k a ow => ?_, fun k d o e ho es a m en => ?_, fun k d o e ho => ?_, S.hdL, S.g⟩
  · by_cases hi : i ∈ is
    · exact (hn a (inn hi lv ha)).2
    · obtain ⟨d, o, e⟩ := lv
      rw [B.outN i hi] at ha
      exact S.org i ⟨d, o, out hi e⟩ a ha
  · obtain ⟨d, o, e, h⟩ := ow
    by_cases hk : k ∈ is
    · have := B.own k d o hk e
      rcases h with ⟨q, _⟩ | ⟨q, _⟩ <;> omega
    · rw [B.outN k hk] at h
      obtain ⟨h1, h2, h3⟩ := S.own k a ⟨d, o, out hk e, h⟩
      refine ⟨h1, fun j hj lv ha => ?_, h3⟩
      by_cases hji : j ∈ is
      · exact h3 (hn a (inn hji lv ha)).1
      · rw [B.outN j hji] at ha
        obtain ⟨d', o', e'⟩ := lv
        exact h2 j hj ⟨d', o', out hji e'⟩ ha
  · by_cases hk : k ∈ is
    · have := B.own k d o hk e
      omega
    · rw [B.outN k hk] at en
      exact S.o1 k d o (out hk e) ho es a m en
  · by_cases hk : k ∈ is
    · have := B.own k d o hk e
      omega
    · rw [B.outN k hk]
      exact S.o2 k d o (out hk e) ho
theorem Sim.hold (S : Sim c Wo H0 A0 hd G nf ρ w σ H) {m : List Addr} {G' : Hp → Prop} (g' : G' H) (hm : ∀ a ∈ m, (∃ xs, H a = some (.lst xs)) ∧ a ∉ Ws Wo) (ho : ∀ a ∈ m, ∀ k, ¬ Own ρ nf k a) : Sim c Wo H0 A0 (m ++ hd) (fun H => G' H ∧ G H) nf ρ w σ H :=
  ⟨S.toSimE, S.kp, S.org, fun k a ow => by
    obtain ⟨h1, h2, h3⟩ := S.own k a ow
    refine ⟨h1, h2, fun z => ?_⟩
    rcases List.mem_append.mp z with z | z
    · exact ho a z k ow
    · exact h3 z, S.o1, S.o2, fun a ha => by
    rcases List.mem_append.mp ha with z | z
    · exact hm a z
    · exact S.hdL a z, g', S.g⟩
theorem Sim.unhold {m : List Addr} {G' : Hp → Prop} (S : Sim c Wo H0 A0 (m ++ hd) (fun H => G' H ∧ G H) nf ρ w σ H) : Sim c Wo H0 A0 hd G nf ρ w σ H :=
  ⟨S.toSimE, S.kp, S.org, fun k a ow => by
    obtain ⟨h1, h2, h3⟩ := S.own k a ow
    exact ⟨h1, h2, fun z => h3 (by simp [z])⟩, S.o1, S.o2, fun a ha => S.hdL a (by simp [ha]), S.g.2⟩
theorem Held.and {m : List Addr} {G' : Hp → Prop} (h : Held hd G) (h' : Held m G') : Held (m ++ hd) (fun H => G' H ∧ G H) := fun S H1 H2 g k l n =>
  ⟨h' S H1 H2 g.1 k l fun a ha => n a (by simp [ha]), h S H1 H2 g.2 k l fun a ha => n a (by simp [ha])⟩
end

section
variable {c : Kx} {X : Cx} {Wx : WX} {T : Tab} {e e1 e2 e3 : Expr} {s : Stmt} {ss ss2 : List Stmt} {pos spos : Pos} {x x1 x2 x3 : Ex} {i j l : Nat} {ys zs : Sms}
theorem ss_app {y : Str} {py ap cp : Pos} (hK : X.K = c.K) (hv : VarOk X i y) (hs : noStar e = true) (hl : (ap.endLine == cp.line) = true) (he : SE c X Wx e (fvE x) (wE T x)) :
    SS c X Wx (.Expr (.Call (.Attribute (.Name y py) "append" ap) [e] [] cp) pos) (wS T (.app i x)) := by
  obtain ⟨te, pe, hte⟩ := he
  refine ⟨_, ps_expr (pe_bm PySem.F.plainAttrs_list PySem.F.slot_list_append PySem.F.type_list_append mt_append (pe_var (pos := py) hv.N hv.vis hv.db hv.cd) (pa_cons pe pa_nil (star_cons hs)) (by rfl) (by rw [star_cons hs]; rfl) hl (star_cons hs) (by rfl)) (by rfl), fun Wo H0 A0 hd G nf ρ w σ H Pp E D hh S lp lx p => ?_⟩
  unfold wS at p
  cases es : slot ρ i with
  | none => rw [es] at p; exact p.elim
  | some sl =>
    obtain ⟨dd, o⟩ := sl
    rw [es] at p
    have e' := slot_some es
    cases dd with
    | lst ds =>
      obtain ⟨ho, p⟩ := p
      obtain ⟨q, xs, m, h1, h2, nW, en, r⟩ := S.own_lst e'
      refine ⟨_, h1, .inl ⟨rfl, xs, .inl (.inl h2)⟩, SemE.go hte hh S lx p fun d fr w2 k v n2 H2 r2 S2 => ?_⟩
      obtain ⟨hlen, k⟩ := k
      obtain ⟨a, xs2, g1, g2, g3, nf', ρ', S', k'⟩ := app_ok S2 hh (Vl.of S r2) e' ho k
      rw [h1] at g1
      cases g1
      exact ⟨q, xs2, v, rfl, rfl, g2, by rw [g3]; exact Nat.lt_of_lt_of_le hlen (by decide), lp.nx _ _ k' _ _ _ S'⟩
    | _ => exact p.elim
theorem ss_appm {y z : Str} {py pz ap cp : Pos} (hK : X.K = c.K) (hv : VarOk X i y) (hz : VarOk X j z) (hl : (ap.endLine == cp.line) = true) :
    SS c X Wx (.Expr (.Call (.Attribute (.Name y py) "append" ap) [.Name z pz] [] cp) pos) (wS T (.appm i j)) := by
  refine ⟨_, ps_expr (pe_bm PySem.F.plainAttrs_list PySem.F.slot_list_append PySem.F.type_list_append mt_append (pe_var (pos := py) hv.N hv.vis hv.db hv.cd) (pa_cons (pe_var (pos := pz) hz.N hz.vis hz.db hz.cd) pa_nil) (by rfl) (by rfl) hl (by rfl) (by rfl)) (by rfl), fun Wo H0 A0 hd G nf ρ w σ H Pp E D hh S lp lx p => ?_⟩
  unfold wS at p
  cases es : slot ρ i with
  | none => rw [es] at p; exact p.elim
  | some sl =>
    obtain ⟨dd, o⟩ := sl
    cases es2 : slot ρ j with
    | none => rw [es, es2] at p; simp at p
    | some sl2 =>
      obtain ⟨d, o2⟩ := sl2
      rw [es, es2] at p
      have e' := slot_some es
      have e2' := slot_some es2
      cases dd with
      | lst ds =>
        have o22 : o2 = 2 := by
          rcases o2 with _ | _ | _ | o2
          · exact p.elim
          · exact p.elim
          · rfl
          · exact p.elim
        subst o22
        obtain ⟨ho, hij, hlen, k⟩ := p
        obtain ⟨q, xs, m, h1, h2, nW, en, r⟩ := S.own_lst e'
        obtain ⟨v, g1, g2⟩ := S.slot j _ _ e2'
        have low : Low (ρ.set j none) ρ := ⟨List.length_set, fun k d o h => by
          by_cases hk : k = j
          · subst hk
            have := get_set_eq h
            cases this
          · exact ⟨o, get_set_ne hk h, Nat.le_refl _⟩⟩
        have nlv : ¬ Lv (ρ.set j none) j := fun ⟨d, o, h⟩ => by
          have := get_set_eq h
          cases this
        have nwn : ∀ b ∈ nf j, Nw H0 hd nf (ρ.set j none) b := fun b hb => by
          obtain ⟨z1, z2, z3⟩ := S.own j b ⟨_, _, e2', .inr ⟨Nat.le_refl _, hb⟩⟩
          refine ⟨z1, fun k lv => z2 k (fun e => nlv (e ▸ lv)) (low.lv lv), z3⟩
        have V : Vl c Wo H0 A0 hd nf (ρ.set j none) [] H v d 2 (nf j) := by
          refine ⟨g2, S.org j ⟨_, _, e2'⟩, fun a ha k _ ow => (nwn a ha).2.1 k ow.mem.2 ow.mem.1, fun _ es e a m en => ⟨nwn a (by rw [en]; simp), ?_⟩, fun _ => ⟨S.o2 j _ _ e2' (Nat.le_refl _), nwn⟩⟩
          have := S.o2 j _ _ e2' (Nat.le_refl _)
          rw [en] at this
          exact (List.nodup_cons.mp this).1
        have e3 : (ρ.set j none)[i]? = some (some (.lst ds, o)) := by rw [List.getElem?_set_ne (Ne.symm hij)]; exact e'
        obtain ⟨a, xs2, q1, q2, q3, nf', ρ', S', k'⟩ := app_ok (S.low low) hh V (k := fun ρ' => Pp.nx ρ' w) e3 ho (by unfold putIn; rw [if_pos (.inr rfl)]; exact k)
        rw [h1] at q1
        cases q1
        exact ⟨_, h1, .inl ⟨rfl, xs, .inl (.inl h2)⟩, v, g1, q, xs2, v, rfl, rfl, q2, by rw [q3]; exact Nat.lt_of_lt_of_le hlen (by decide), lp.nx _ _ k' _ _ _ S'⟩
      | _ => simp at p
theorem ss_expr (hc : noComp e = true) (he : SE c X Wx e (fvE x) (wE T x)) : SS c X Wx (.Expr e pos) (wS T (.expr x)) := by
  obtain ⟨te, pe, hte⟩ := he
  refine ⟨_, ps_expr pe (sw_no hc), fun Wo H0 A0 hd G nf ρ w σ H Pp E D hh S lp lx p => ?_⟩
  unfold wS at p
  exact SemE.go hte hh S lx p fun d fr w2 k v n2 H2 r2 S2 => lp.nx _ _ k _ _ _ S2
theorem ss_ret (he : SE c X Wx e (fvE x) (wE T x)) : SS c X Wx (.Return (some e) pos) (wS T (.ret x)) := by
  obtain ⟨te, pe, hte⟩ := he
  refine ⟨_, ps_ret pe, fun Wo H0 A0 hd G nf ρ w σ H Pp E D hh S lp lx p => ?_⟩
  unfold wS at p
  refine SemE.go hte hh S lx p fun d fr w2 k v n2 H2 r2 S2 => ?_
  have V := Vl.of S r2
  exact lp.rt _ _ _ k v n2 H2 V.rp S2.kp S2.wok V.org (fun f es e a m en => ⟨(V.f1 f es e a m en).1.1, (V.f1 f es e a m en).2⟩) fun f => ⟨(V.f2 f).1, fun a ha => ((V.f2 f).2 a ha).1⟩
theorem ss_retv {y : Str} {py : Pos} (hv : VarOk X i y) : SS c X Wx (.Return (some (.Name y py)) pos) (wS T (.retv i)) := by
  refine ⟨_, ps_ret (pe_var (pos := py) hv.N hv.vis hv.db hv.cd), fun Wo H0 A0 hd G nf ρ w σ H Pp E D hh S lp lx p => ?_⟩
  unfold wS at p
  cases es : slot ρ i with
  | none => rw [es] at p; exact p.elim
  | some sl =>
    obtain ⟨d, o⟩ := sl
    rw [es] at p
    have e' := slot_some es
    obtain ⟨v, h1, r⟩ := S.slot i _ _ e'
    refine ⟨v, h1, lp.rt _ _ _ p v (nf i) H r S.kp S.wok (S.org i ⟨_, _, e'⟩) (fun f es e a m en => ?_) fun f => ?_⟩
    · by_cases pp : d.pure = true
      · have := Rp.pure_nil d r pp
        rw [this] at en; cases en
      · rw [if_neg pp] at f
        exact ⟨(S.own i a ⟨_, _, e', .inl ⟨f, ⟨es, e⟩, m, en⟩⟩).1, S.o1 i _ _ e' f ⟨es, e⟩ a m en⟩
    · by_cases pp : d.pure = true
      · have := Rp.pure_nil d r pp
        rw [this]
        exact ⟨List.nodup_nil, fun a h => by simp at h⟩
      · rw [if_neg pp] at f
        exact ⟨S.o2 i _ _ e' f, fun a ha => (S.own i a ⟨_, _, e', .inr ⟨f, ha⟩⟩).1⟩
theorem ss_retN : SS c X Wx (.Return none pos) (wS T .retN) :=
  ⟨_, ps_retN, fun Wo H0 A0 hd G nf ρ w σ H Pp E D hh S lp lx p => lp.rt _ _ _ p .non [] H .non S.kp S.wok (fun a h => by simp at h) (fun _ _ _ a m h => by simp at h) fun _ => ⟨List.nodup_nil, fun a h => by simp at h⟩⟩
theorem ss_iff (hc : STt c X Wx e (wE T x)) (ha : SSs c X Wx ss (wSs T ys)) (hb : SSs c X Wx ss2 (wSs T zs)) : SS c X Wx (.If e ss ss2 pos) (wS T (.iff x ys zs)) := by
  obtain ⟨t, pt, ht⟩ := hc
  obtain ⟨t1, pt1, ht1⟩ := ha
  obtain ⟨t2, pt2, ht2⟩ := hb
  refine ⟨_, ps_if pt pt1 pt2, fun Wo H0 A0 hd G nf ρ w σ H Pp E D hh S lp lx p => ?_⟩
  unfold wS at p
  refine ht Wo nf ρ w σ H _ E _ S.toSimE (fun b w' k H' kk o => ?_) (lx.x S) p
  have S' := S.step hh kk o
  cases b with
  | true => exact ht1 Wo H0 A0 hd G nf ρ w' σ H' Pp E D hh S' lp lx k
  | false => exact ht2 Wo H0 A0 hd G nf ρ w' σ H' Pp E D hh S' lp lx k
theorem ss_whl (po : PassesOwn (model X.prog X.w) X.A X.env X.xe) (hc : STt c X Wx e (wE T x)) (hb : SSs c X Wx ss (wSs T ys)) : SS c X Wx (.While e ss [] pos) (wS T (.whl x ys)) := by
  obtain ⟨t, pt, ht⟩ := hc
  obtain ⟨t1, pt1, ht1⟩ := hb
  refine ⟨_, ps_while po pt pt1, fun Wo H0 A0 hd G nf ρ w σ H Pp E D hh S lp lx p => ?_⟩
  unfold wS at p
  obtain ⟨n, p⟩ := p
  refine ⟨fun m σ H => ∃ nf ρ w, Sim c Wo H0 A0 hd G nf ρ w σ H ∧ whlS _ _ Pp m ρ w, ⟨n, nf, ρ, w, S, p⟩, ?_⟩
  rintro m σ1 H1 ⟨nf1, ρ1, w1, S1, p1⟩
  cases m with
  | zero => exact p1.elim
  | succ m =>
    unfold whlS at p1
    refine ht Wo nf1 ρ1 w1 σ1 H1 _ E _ S1.toSimE (fun b w' k H' kk o => ?_) (lx.x S1) p1
    have S' := S1.step hh kk o
    cases b with
    | true =>
      refine ⟨fun σ' H' => ∃ nf ρ w, Sim c Wo H0 A0 hd G nf ρ w σ' H' ∧ whlS _ _ Pp m ρ w, fun σ' H' h => ⟨m, Nat.lt_succ_self _, h⟩, ?_⟩
      refine ht1 Wo H0 A0 hd G nf1 ρ1 w' σ1 H' _ E _ hh S' ?_ lx k
      exact ⟨fun ρ' w' k nf' σ' H' S' => ⟨nf', ρ', w', S', k⟩, fun ρ' w' k nf' σ' H' S' => lp.nx _ _ k _ _ _ S', fun ρ' w' k nf' σ' H' S' => ⟨nf', ρ', w', S', k⟩, lp.rt⟩
    | false => exact lp.nx _ _ k _ _ _ S'
theorem ss_forr {tg it : Expr} {t : Tg} {xi : Ix} (po : PassesOwn (model X.prog X.w) X.A X.env X.xe) (hc : X.calm = true) (hK : X.K = c.K) (hN : X.N.Nodup) (tok : TgOk X t tg) (nd : (tgl t).Nodup) (hi : SI c X Wx tg it (fvI xi) (wI T xi))
    (hf : ∀ y, foldedSetIterable it X.env y = pure y) (hb : SSs c X Wx ss (wSs T ys)) : SS c X Wx (.For tg it ss [] pos) (wS T (.forr t xi ys)) := by
  obtain ⟨wi, pi, hwi⟩ := hi
  obtain ⟨tb, ptb, htb⟩ := hb
  refine ⟨_, ps_for po hc pi (pg_of hN hc tok) ptb hf, fun Wo H0 A0 hd G nf ρ w σ H Pp E D hh S lp lx p => ?_⟩
  unfold wS at p
  refine hwi Wo nf ρ w σ H _ E _ S.toSimE (fun ds w1 k J m H1 it1 k1 o1 og1 th1 => ?_) (lx.x S) p
  obtain ⟨G', W, g0, gk⟩ := it1
  have S1 := (S.step hh k1 o1).low (@dg_low (fvI xi) ρ).1
  have own1 : ∀ a ∈ m, ∀ k, ¬ Own (dg (fvI xi) ρ) nf k a := fun a ha k ow => by
    obtain ⟨h1, h2⟩ := S.dgd ow
    rcases og1 a ha with z | ⟨i, hi, lv, z⟩
    · obtain ⟨⟨xs, q⟩, _⟩ := S.there h2.mem.2 h2.mem.1
      rw [z] at q; cases q
    · exact (S.own k a h2).2.1 i (fun e => h1 (e ▸ hi)) lv z
  have orgm : ∀ a ∈ m, H0 a = none ∨ a ∈ A0 := fun a ha => by
    rcases og1 a ha with z | ⟨i, hi, lv, z⟩
    · exact .inl (S.kp.dom a z)
    · exact S.org i lv a z
  have S2 := S1.hold g0 th1 own1
  have hh2 := hh.and (m := m) (G' := G') gk
  rw [hK]
  refine for_it W (fun i σ H => ∃ nf ρ w, Sim c Wo H0 A0 (m ++ hd) (fun H => G' H ∧ G H) nf ρ w σ H ∧ forS _ Pp (ds.drop i) ρ w) ⟨nf, _, w1, S2, k⟩ (fun i σ H _ ⟨nf, ρ, w, S, _⟩ => S.g.1) ?_ ?_
  · rintro i x σ3 H3 H4 hi ⟨nf3, ρ3, w3, S3, p3⟩ ⟨d, n1, hd3, k4, r4, sub4⟩
    have hd' := List.getElem?_eq_some_iff.mp hd3
    obtain ⟨hl, ed⟩ := hd'
    rw [List.drop_eq_getElem_cons hl, ed] at p3
    unfold forS at p3
    have S4 := S3.step hh2 (k4.mono fun a h => by simp at h) (S3.wok.keep k4 .nil fun a _ => by simp)
    refine bindTg S4.toSimE r4 nd p3 fun ρ' σ' nf' B pb => ?_
    have S5 := S4.binds B fun a ha => ⟨by simp [sub4 a ha], orgm a (sub4 a ha)⟩
    refine htb Wo H0 A0 (m ++ hd) _ nf' ρ' w3 σ' H4 _ E _ hh2 S5 ?_ lx pb
    exact ⟨fun ρ' w' k nf' σ' H' S' => ⟨nf', ρ', w', S', k⟩, fun ρ' w' k nf' σ' H' S' => lp.nx _ _ k _ _ _ S'.unhold, fun ρ' w' k nf' σ' H' S' => ⟨nf', ρ', w', S', k⟩, lp.rt⟩
  · rintro σ3 H3 ⟨nf3, ρ3, w3, S3, p3⟩
    rw [List.drop_length] at p3
    exact lp.nx _ _ p3 _ _ _ S3.unhold
end
end Ev

set_option Elab.async false
set_option linter.all false
set_option maxRecDepth 100000
set_option maxHeartbeats 4000000
/-! # EvT: a list handed over as a well; list(range(..)); several targets; an item of an item -/
namespace Ev
open PySem PySem.Spec PyProof.Rows L2

section
variable {c : Kx} {X : Cx} {Wx : WX} {T : Tab} {e a b : Expr} {fv fv1 fv2 : List Nat} {p pos p2 pos2 : Pos} {x y : Ex} {n : Str}
theorem ws_mem {b q : Addr} (h : b ∈ Ws (some q)) : b = q := by simpa [Ws] using h
theorem Rp.toW {c : Kn} {W W' : Option Addr} {H : Hp} {d : D} {v : V} {ns : List Addr} (r : Rp c W H v d ns) (p : d.pure = true) : Rp c W' H v d ns := r.anyW d p
/-- the call of a def with a new list as its well -/
theorem se_callw {k g : Nat} (hr : Room k X.A) (hgd : X.A.guards = some []) (tk : Takes X Wx) (F : HasFn c X k n g (T.fn g)) (hg : Gl X n) (hdb : (n == ("__debug__" : Str)) = false) (h : SE c X Wx e fv (wE T x)) (hs : noStar e = true) :
    SE c X Wx (.Call (.Name n p) [e] [] pos) fv (wE T (.callw n g x)) := by
  obtain ⟨fd, ps, G, hb⟩ := F.ex
  obtain ⟨t, ht, hd⟩ := h
  refine ⟨_, peG_call G hr hgd hg F.mg F.kp hb tk (pa_cons ht pa_nil (star_cons hs)) hdb (by simp [hs]), fun Wo nf ρ w σ H K E Q S l lx p => ?_⟩
  unfold wE at p
  refine hd Wo nf ρ w σ H _ E _ S (fun d fr w1 k v ns H1 r => ?_) lx p
  cases d with
  | lst ds =>
    obtain ⟨hf, pu, sp⟩ := k
    obtain ⟨rp, kp, wok, org, f1, f2⟩ := r
    cases rp with
    | @lst q xs _ m h1 h2 h3 =>
      have hn := (f1 hf ds rfl q m rfl).1
      have em := RpA.pure_nil ds h3 pu
      subst em
      refine ⟨some q, ds, [.wel], [], _, _, RpA.one (.wel rfl), ?_, sp, ?_, fun _ _ _ e => e.elim⟩
      · intro a e
        cases e
        exact ⟨xs, h1, RpA.anyW ds h3 pu, pu⟩
      · rintro d fr' w' ⟨pd, kd⟩ v' n' H' r' k' o' og' _ _
        have en := Rp.pure_nil d r' pd
        subst en
        have kk : Kp (Ws Wo) H H' := ⟨(fun b o e nb => by
          refine k'.keep b o (kp.keep b o e nb) fun z => ?_
          rw [ws_mem z, hn] at e; cases e), fun b e => kp.dom b (k'.dom b e)⟩
        refine l d 2 w1 kd v' [] H' (.pur (r'.anyW d pd) kk ?_)
        intro b eb
        obtain ⟨ys, g1, g2, g3⟩ := wok b eb
        have hbq : b ≠ q := fun z => h2 (by rw [eb, z])
        have lq : Ls H1 (Ws (some q)) := fun a ha => by
          have z : a = q := ws_mem ha
          exact ⟨xs, by rw [z]; exact h1⟩
        exact ⟨ys, k'.keep b _ g1 (fun z => hbq (ws_mem z)), RpA.keep w1 g2 k' lq (fun a h => by simp at h), g3⟩
  | _ => exact k.elim
theorem rgV_rp {c : Kn} {Wo : Option Addr} {H : Hp} {lo : Int} : ∀ n : Nat, RpA c Wo H ((List.range n).map fun i => V.int (lo + (i : Nat))) (rngD lo n) []
  | 0 => .nil
  | n + 1 => by
    have ih := rgV_rp (c := c) (Wo := Wo) (H := H) (lo := lo) n
    unfold rngD at ih ⊢
    rw [List.range_succ, List.map_append, List.map_append]
    simpa using ih.append (RpA.one (.int _))
theorem new_list {c : Kx} {Wo : Option Addr} {nf : Nat → List Addr} {ρ : Slots} {H H1 : Hp} {K : KE} {Q : VK} {w1 : Wl} {vs : List V} {ds : List D} (l : LiftK c.toKn Wo nf ρ fv H K Q) (kp : Kp (Ws Wo) H H1) (o : WOk c.toKn Wo w1 H1) (r : RpA c.toKn Wo H1 vs ds []) (k : K (.lst ds) 2 w1) :
    ∀ q, H1 q = none → Q (.ref q) (upd H1 q (.lst vs)) := fun q hq => by
  have kn : Kp [] H1 (upd H1 q (.lst vs)) := .new hq
  have nW : Wo ≠ some q := fun z => by
    obtain ⟨xs, h, _⟩ := o q z
    rw [hq] at h; cases h
  refine l _ _ _ k (.ref q) [q] _ ⟨.lst upd_same nW (r.keep _ kn .nil fun a h => by simp at h), kp.trans (kn.mono fun a h => by simp at h), o.keep kn .nil (fun a _ => by simp), fun a ha => ?_, fun _ es _ a m e => ?_, fun _ => ⟨by simp, fun a ha => ?_⟩⟩
  · have : a = q := by simpa using ha
    rw [this]; exact .inl (kp.dom q hq)
  · cases e
    exact ⟨kp.dom q hq, by simp⟩
  · have : a = q := by simpa using ha
    rw [this]; exact kp.dom q hq
theorem se_lrg1 (hc : X.calm = true) (hl : Gl X "list") (hlm : X.mg "list" = none) (hg : Gl X "range") (hm : X.mg "range" = none) (h : SE c X Wx e fv (wE T x)) (hs : noStar e = true) :
    SE c X Wx (.Call (.Name "list" p) [.Call (.Name "range" p2) [e] [] pos2] [] pos) fv (wE T (.lrg (.cons x .nil))) := by
  obtain ⟨t, ht, hd⟩ := h
  refine ⟨_, pe_listRg hc hl hlm (prg_1 hg hm ht (star_cons hs)) (by rfl), fun Wo nf ρ w σ H K E Q S l lx p => ?_⟩
  unfold wE wEs at p
  refine hd Wo nf ρ w σ H _ E _ S (fun d fr w1 k v ns H1 r => ?_) lx p
  unfold wEs at k
  cases d with
  | int n =>
    obtain ⟨rfl, rfl⟩ := rp_int r.rp
    obtain ⟨ok, k⟩ := k
    refine ⟨n, rfl, ok, ?_⟩
    have e : rgV 0 n = (List.range n.toNat).map fun i => V.int (0 + (i : Nat)) := by unfold rgV; rw [Int.sub_zero]
    rw [e]
    exact new_list l r.kp r.wok (rgV_rp _) k
  | _ => exact k.elim
theorem se_lrg2 (hc : X.calm = true) (hl : Gl X "list") (hlm : X.mg "list" = none) (hg : Gl X "range") (hm : X.mg "range" = none) (h1 : SE c X Wx a fv1 (wE T x)) (h2 : SE c X Wx b fv2 (wE T y)) (hs : noStar a = true) (hs2 : noStar b = true) :
    SE c X Wx (.Call (.Name "list" p) [.Call (.Name "range" p2) [a, b] [] pos2] [] pos) (fv1 ++ fv2) (wE T (.lrg (.cons x (.cons y .nil)))) := by
  obtain ⟨t, ht, hd⟩ := h1
  obtain ⟨t2, ht2, hd2⟩ := h2
  refine ⟨_, pe_listRg hc hl hlm (prg_2 hg hm ht ht2 (star_cons hs) (star_cons hs2) (by rw [star_cons hs2]; rfl)) (by rfl), fun Wo nf ρ w σ H K E Q S l lx p => ?_⟩
  unfold wE wEs at p
  refine hd Wo nf ρ w σ H _ E _ S (fun d fr w1 k v ns H1 r => ?_) lx p
  unfold wEs at k
  refine hd2 Wo nf ρ w1 σ H1 _ E _ (r.sim S) (fun d2 fr2 w2 k2 v2 ns2 H2 r2 => ?_) (lx.step r.kp) k
  unfold wEs at k2
  cases d with
  | int n =>
    cases d2 with
    | int m =>
      obtain ⟨rfl, rfl⟩ := rp_int r.rp
      obtain ⟨rfl, rfl⟩ := rp_int r2.rp
      obtain ⟨ok, k⟩ := k2
      refine ⟨n, m, rfl, rfl, ok, ?_⟩
      unfold rgV
      exact new_list (fun d fr w' kk v ns H' r => l d fr w' kk v ns H' ⟨r.rp, r.kp, r.wok, fun a ha => (r.org a ha).imp id fun ⟨i, hi, q⟩ => ⟨i, hi, q⟩, r.f1, r.f2⟩) (r.kp.trans r2.kp) r2.wok (rgV_rp _) k
    | _ => exact k2.elim
  | _ => exact k2.elim
end

/-! ### several targets -/
section
variable {c : Kx} {Wo : Option Addr} {H0 H H' H1 H2 : Hp} {A0 hd : List Addr} {G : Hp → Prop} {nf : Nat → List Addr} {ρ ρ1 : Slots} {w w' w1 w2 : Wl} {σ : L2.St} {v u : V} {d y : D} {fr fy o : Nat} {ns n2 : List Addr} {fv fv2 : List Nat} {i j : Nat} {a : Addr}
/-- values that wait to be stored -/
structure Rst (c : Kx) (Wo : Option Addr) (H0 : Hp) (A0 hd : List Addr) (nf : Nat → List Addr) (ρ : Slots) (H : Hp) (vs : List V) (ds : List D) (fr : Nat) (ns : List Addr) : Prop where
  rp : RpA c.toKn Wo H vs ds ns
  org : ∀ a ∈ ns, H0 a = none ∨ a ∈ A0
  sep : ∀ a ∈ ns, ∀ k, ¬ Own ρ nf k a
  f2 : fr = 2 → ns.Nodup ∧ ∀ a ∈ ns, Nw H0 hd nf ρ a
/-- a pure value stored at an item: what waits is not touched -/
theorem subS_pure (S : Sim c Wo H0 A0 hd G nf ρ w σ H) (hh : Held hd G) (rv : Rp c.toKn Wo H v d []) (pd : d.pure = true) {vs : List V} {ds : List D} {z : Int} {k : Slots → Wl → Prop} (R : Rst c Wo H0 A0 hd nf ρ H vs ds fr ns) (h : subS [] i z d 2 ρ w k) :
    ∃ ov, σ[i]? = some (some ov) ∧ rSetL ov (.int z) v H fun H' => ∃ nf' ρ' w', Sim c Wo H0 A0 hd G nf' ρ' w' σ H' ∧ Rst c Wo H0 A0 hd nf' ρ' H' vs ds fr ns ∧ k ρ' w' := by
  obtain ⟨ov, h1, p, xs, kk, jj, e1, e2, e3, e4, _⟩ := subS_ok S hh (fr := 2) (fv := []) (Vl.pur rv) h
  refine ⟨ov, h1, p, xs, kk, jj, e1, e2, e3, e4, ?_⟩
  cases e1
  cases e2
  unfold subS at h
  cases es : slot ρ i with
  | none => rw [es] at h; exact h.elim
  | some x =>
    obtain ⟨dd, o⟩ := x
    rw [es] at h
    have e := slot_some es
    cases dd with
    | wel =>
      obtain ⟨pp, h⟩ := h
      cases hz : ixN w.length z with
      | none => rw [hz] at h; exact h.elim
      | some n =>
        rw [hz] at h
        have h : k ρ (w.set n d) := h
        obtain ⟨ov', h1', r⟩ := S.slot i _ _ e
        rw [h1] at h1'
        cases h1'
        generalize nf i = nfi at r
        cases r with
        | wel ew =>
          obtain ⟨xs', g1, g2, g3⟩ := S.wok p ew
          rw [e3] at g1
          cases g1
          have ej : jj = n := by
            rw [g2.length, hz] at e4
            exact (Option.some.inj e4).symm
          subst ej
          have kw : Kp [p] H (upd H p (.lst (xs.set jj v))) := .wr e3
          have kW : Kp (Ws Wo) H (upd H p (.lst (xs.set jj v))) := kw.mono fun b hb => by
            have z : b = p := by simpa using hb
            simp [Ws, ew, z]
          obtain ⟨m1, r1, hm1, _⟩ := g2.set (i := jj) (v := v) (ixN_lt hz) rv
          have e1 : m1 = [] := by
            cases m1 with
            | nil => rfl
            | cons b t => rcases hm1 b (by simp) with q | q <;> simp at q
          rw [e1] at r1
          have lA : Ls H [p] := fun b hb => by
            have z : b = p := by simpa using hb
            exact ⟨xs, by rw [z]; exact e3⟩
          have pw : pureAll (w.set jj d) = true := by
            have : ∀ (w : Wl) (n : Nat), pureAll w = true → pureAll (w.set n d) = true := by
              intro w
              induction w with
              | nil => intro n h; simpa using h
              | cons x w ih =>
                intro n h
                simp only [pureAll, Bool.and_eq_true] at h
                cases n with
                | zero => simp [pureAll, pd, h.2]
                | succ n => simp [pureAll, h.1, ih n h.2]
            exact this w jj g3
          refine ⟨nf, ρ, w.set jj d, S.step hh kW fun b hb => ?_, ⟨R.rp.kp kW S.wok.ls, R.org, R.sep, R.f2⟩, h⟩
          rw [ew] at hb; cases hb
          exact ⟨_, upd_same, r1.keep _ kw lA fun b hb => by simp at hb, pw⟩
    | lst es' =>
      obtain ⟨ho, h⟩ := h
      cases hz : ixN es'.length z with
      | none => rw [hz] at h; exact h.elim
      | some n =>
        rw [hz] at h
        have h : putIn [] i (es'.set n d) o d 2 ρ fun ρ' => k ρ' w := h
        unfold putIn at h
        rw [if_pos (.inr rfl)] at h
        obtain ⟨a, xs', m, g1, g2, nW, en, r⟩ := S.own_lst e
        rw [h1] at g1
        cases g1
        rw [e3] at g2
        cases g2
        have ej : jj = n := by
          rw [r.length, hz] at e4
          exact (Option.some.inj e4).symm
        subst ej
        have ow : Own ρ nf i p := ⟨_, o, e, .inl ⟨ho, ⟨es', rfl⟩, m, en⟩⟩
        have lv : Lv ρ i := ⟨_, _, e⟩
        have na0 : p ∉ m := S.o1 i _ _ e ho ⟨es', rfl⟩ p m en
        have mm : ∀ b ∈ m, b ∈ nf i := fun b hb => by rw [en]; simp [hb]
        obtain ⟨m1, r1, hm1, nd1⟩ := r.set (i := jj) (v := v) (ixN_lt hz) rv
        have hm1' : ∀ b ∈ m1, b ∈ m := fun b hb => by
          rcases hm1 b hb with q | q
          · exact q
          · simp at q
        have S' := S.wr hh (o' := o) e h1 e3 en ho r1 (fun q => na0 (hm1' p q)) (fun b hb => S.org i lv b (mm b (hm1' b hb))) (fun b hb k hk owk => (S.own k b owk).2.1 i (Ne.symm hk) lv (mm b (hm1' b hb))) (fun h2o => by
          have ndi := S.o2 i _ _ e h2o
          rw [en] at ndi
          obtain ⟨_, ndm⟩ := List.nodup_cons.mp ndi
          exact ⟨nd1 ndm List.nodup_nil (fun b hb => by simp at hb), fun b hb => S.own i b ⟨_, o, e, .inr ⟨h2o, mm b (hm1' b hb)⟩⟩⟩)
        have ownb : ∀ k b, Own (ρ.set i (some (.lst (es'.set jj d), o))) (nfS nf i (p :: m1)) k b → Own ρ nf k b := fun k b hb => by
          by_cases hk : k = i
          · subst hk
            obtain ⟨d', o', q, hq⟩ := hb
            have q := get_set_eq q
            cases q
            rcases hq with ⟨q1, _, m2, q2⟩ | ⟨q1, q2⟩
            · have q2 : p :: m1 = b :: m2 := by simpa [nfS] using q2
              injection q2 with q2 _
              subst q2
              exact ow
            · have q2 : b = p ∨ b ∈ m1 := by simpa [nfS] using q2
              rcases q2 with rfl | q2
              · exact ow
              · exact ⟨_, o, e, .inr ⟨q1, mm b (hm1' b q2)⟩⟩
          · exact (own_set hk).mp hb
        have kw : Kp [p] H (upd H p (.lst (xs.set jj v))) := .wr e3
        have lA : Ls H [p] := fun b hb => by
          have z : b = p := by simpa using hb
          exact ⟨xs, by rw [z]; exact e3⟩
        refine ⟨_, _, w, S', ⟨R.rp.keep _ kw lA fun b hb z => ?_, R.org, fun b hb k owk => R.sep b hb k (ownb k b owk), fun f => ⟨(R.f2 f).1, fun b hb => ?_⟩⟩, h⟩
        · have z : b = p := by simpa using z
          exact R.sep b hb i (z ▸ ow)
        · obtain ⟨z1, z2, z3⟩ := (R.f2 f).2 b hb
          refine ⟨z1, fun j lvj => ?_, z3⟩
          by_cases hj : j = i
          · subst hj
            intro q
            have q : b = p ∨ b ∈ m1 := by simpa [nfS] using q
            rcases q with rfl | q
            · exact z2 j lv ow.mem.1
            · exact z2 j lv (mm b (hm1' b q))
          · simpa [nfS, hj] using z2 j ((lv_set hj).mp lvj)
    | _ => exact h.elim
theorem Rst.tail {vs : List V} {ds : List D} (R : Rst c Wo H0 A0 hd nf ρ H (v :: vs) (d :: ds) fr ns) (S : Sim c Wo H0 A0 hd G nf ρ w σ H) (i : Nat) :
    ∃ n1 n2, Sim c Wo H0 A0 hd G (nfS nf i n1) (ρ.set i (some (d, if d.pure = true ∨ fr = 2 then 2 else 0))) w (σ.set i (some v)) H ∧ Rst c Wo H0 A0 hd (nfS nf i n1) (ρ.set i (some (d, if d.pure = true ∨ fr = 2 then 2 else 0))) H vs ds fr n2 := by
  obtain ⟨rp, org, sep, f2⟩ := R
  cases rp with
  | @cons _ _ _ _ n1 n2 r1 r2 =>
    have hp : d.pure = true → n1 = [] := fun q => Rp.pure_nil d r1 q
    have o1 : ∀ a ∈ n1, H0 a = none ∨ a ∈ A0 := fun a ha => org a (by simp [ha])
    have nw1 : fr = 2 → ∀ a ∈ n1, Nw H0 hd nf ρ a := fun f a ha => (f2 f).2 a (by simp [ha])
    have nd1 : fr = 2 → n1.Nodup := fun f => (List.nodup_append.mp (f2 f).1).1
    refine ⟨n1, n2, S.put i _ r1 o1 (fun a ha k _ => sep a (by simp [ha]) k) (fun f es e a m en => ?_) (fun f => ?_), r2, fun a ha => org a (by simp [ha]), fun a ha k owk => ?_, fun f => ⟨(List.nodup_append.mp (f2 f).1).2.1, fun a ha => ?_⟩⟩
    · by_cases q : d.pure = true ∨ fr = 2
      · rcases q with q | q
        · rw [hp q] at en; cases en
        · have := nw1 q a (by rw [en]; simp)
          have nd := nd1 q
          rw [en] at nd
          exact ⟨⟨this.1, fun j _ => this.2.1 j, this.2.2⟩, (List.nodup_cons.mp nd).1⟩
      · rw [if_neg q] at f; omega
    · by_cases q : d.pure = true ∨ fr = 2
      · rcases q with q | q
        · rw [hp q]; exact ⟨List.nodup_nil, fun a h => by simp at h⟩
        · exact ⟨nd1 q, fun a ha => ⟨(nw1 q a ha).1, fun j _ => (nw1 q a ha).2.1 j, (nw1 q a ha).2.2⟩⟩
      · rw [if_neg q] at f; omega
    · by_cases hk : k = i
      · subst hk
        have hm : a ∈ n1 := by simpa [nfS] using owk.mem.1
        by_cases q : d.pure = true ∨ fr = 2
        · rcases q with q | q
          · rw [hp q] at hm; simp at hm
          · exact (List.nodup_append.mp (f2 q).1).2.2 a hm a ha rfl
        · obtain ⟨d', o', e, h⟩ := owk
          have e := get_set_eq e
          cases e
          rw [if_neg q] at h
          rcases h with ⟨h, _⟩ | ⟨h, _⟩ <;> omega
      · exact sep a (by simp [ha]) k ((own_set hk).mp owk)
    · obtain ⟨z1, z2, z3⟩ := (f2 f).2 a (by simp [ha])
      refine ⟨z1, fun j lvj => ?_, z3⟩
      by_cases hj : j = i
      · subst hj
        intro q
        have q : a ∈ n1 := by simpa [nfS] using q
        exact (List.nodup_append.mp (f2 f).1).2.2 a q a ha rfl
      · simpa [nfS, hj] using z2 j ((lv_set hj).mp lvj)
theorem Rst.step {vs : List V} {ds : List D} (R : Rst c Wo H0 A0 hd nf ρ H vs ds fr ns) (k : Kp (Ws Wo) H H') (o : WOk c.toKn Wo w H) : Rst c Wo H0 A0 hd nf ρ H' vs ds fr ns := ⟨R.rp.kp k o.ls, R.org, R.sep, R.f2⟩
end

section
variable {c : Kx} {X : Cx} {Wx : WX} {T : Tab} {e e1 e2 e3 : Expr} {s : Stmt} {pos spos : Pos} {x x1 x2 x3 : Ex} {i j l : Nat}
/-- several targets, read -/
def STs (c : Kx) (X : Cx) (Wx : WX) (T : Tab) (tgs : List Expr) (ts : List Tt) : Prop :=
  ∃ gs, PGs X tgs gs ∧ (assignEach tgs X.env).length = ts.length ∧ (assignEach tgs X.env).findIdx? (·.1) = none ∧
    ∀ Wo H0 A0 hd G nf ρ w σ H vs ds fr ns (k : Slots → Wl → Prop) E (Q : L2.St → Hp → Prop), Held hd G → Sim c Wo H0 A0 hd G nf ρ w σ H → Rst c Wo H0 A0 hd nf ρ H vs ds fr ns → LiftS c Wo H0 A0 E Wx → tsS T fr ts ds ρ w k E →
      (∀ nf' ρ' w' σ' H', Sim c Wo H0 A0 hd G nf' ρ' w' σ' H' → k ρ' w' → Q σ' H') → gs vs σ H Q
theorem sts_nil : STs c X Wx T [] [] := by
  refine ⟨gNil, pgs_nil, rfl, rfl, fun Wo H0 A0 hd G nf ρ w σ H vs ds fr ns k E Q hh S R lx h q => ?_⟩
  cases ds with
  | nil =>
    obtain ⟨rp, _⟩ := R
    cases rp
    exact ⟨rfl, q _ _ _ _ _ S h⟩
  | cons d ds => exact h.elim
theorem sts_nm {y : Str} {py : Pos} {tgs : List Expr} {ts : List Tt} (hN : X.N.Nodup) (hi : X.N[i]? = some y) (hx : Loc X.env.scope y) (hf : X.fn y = true ∨ X.env.scope.names.lookup y = some .local) (h : STs c X Wx T tgs ts) : STs c X Wx T (.Name y py :: tgs) (.nm i :: ts) := by
  obtain ⟨gs, pg, h1, h2, h3⟩ := h
  refine ⟨_, pgs_cons (pg_name (pos := py) hN hi hx hf) pg (by rfl), ?_, ?_, fun Wo H0 A0 hd G nf ρ w σ H vs ds fr ns k E Q hh S R lx h q => ?_⟩
  · show (assignEach tgs X.env).length + 1 = ts.length + 1
    rw [h1]
  · show List.findIdx? (·.1) ((false, assign (.Name y py) X.env) :: assignEach tgs X.env) = none
    rw [List.findIdx?_cons]
    simp [h2]
  · cases ds with
    | nil => exact h.elim
    | cons d ds =>
      cases vs with
      | nil =>
        have := R.rp.length
        simp at this
      | cons v vs =>
        obtain ⟨n1, n2, S', R'⟩ := R.tail S i
        exact ⟨v, vs, rfl, h3 Wo H0 A0 hd G _ _ w _ H vs ds fr n2 k E Q hh S' R' lx h q⟩
theorem sts_sb {y : Str} {py ps : Pos} {ix : Expr} {xi : Ex} {tgs : List Expr} {ts : List Tt} (hv : VarOk X i y) (hsl : noSlc ix = true) (hi : SE c X Wx ix (fvE xi) (wE T xi)) (h : STs c X Wx T tgs ts) :
    STs c X Wx T (.Subscript (.Name y py) ix ps :: tgs) (.sb i xi :: ts) := by
  obtain ⟨gs, pg, h1, h2, h3⟩ := h
  obtain ⟨ti, pi, hti⟩ := hi
  refine ⟨_, pgs_cons (pg_sub (pe_var (pos := py) hv.N hv.vis hv.db hv.cd) pi set_list (ass_plain hsl)) pg (by rfl), ?_, ?_, fun Wo H0 A0 hd G nf ρ w σ H vs ds fr ns k E Q hh S R lx h q => ?_⟩
  · show (assignEach tgs X.env).length + 1 = ts.length + 1
    rw [h1]
  · show List.findIdx? (·.1) ((false, assign (.Subscript (.Name y py) ix ps) X.env) :: assignEach tgs X.env) = none
    rw [List.findIdx?_cons]
    simp [h2]
  · cases ds with
    | nil => exact h.elim
    | cons d ds =>
      cases vs with
      | nil =>
        have := R.rp.length
        simp at this
      | cons v vs =>
        obtain ⟨pd, hsome, h⟩ := h
        obtain ⟨sl, hsl'⟩ := Option.isSome_iff_exists.mp hsome
        obtain ⟨dd, oo⟩ := sl
        obtain ⟨ov, ho, _⟩ := S.slot i _ _ (slot_some hsl')
        refine ⟨v, vs, rfl, ov, ho, ?_⟩
        refine SemE.go hti hh S lx h fun d2 f2 w2 k2 v2 n2 H2 r2 S2 => ?_
        have R2 := R.step r2.kp S.wok
        cases d2 with
        | int z =>
          obtain ⟨rfl, rfl⟩ := rp_int r2.rp
          have k2 : subS [] i z d 2 ρ w2 fun ρ' w' => tsS T fr ts ds ρ' w' k E := k2
          obtain ⟨rp, org, sep, ff⟩ := R2
          cases rp with
          | @cons _ _ _ _ m1 m2 r1 rr =>
            have em := Rp.pure_nil d r1 pd
            subst em
            have R3 : Rst c Wo H0 A0 hd nf ρ H2 vs ds fr m2 := ⟨rr, fun a ha => org a (by simpa using ha), fun a ha => sep a (by simpa using ha), fun f => by simpa using ff f⟩
            obtain ⟨ov', ho', p', xs, kk, jj, e1, e2, e3, e4, nf', ρ', w', S', R', kf⟩ := subS_pure S2 hh r1 pd R3 k2
            rw [ho] at ho'
            cases ho'
            exact ⟨p', xs, kk, jj, e1, e2, e3, e4, h3 Wo H0 A0 hd G nf' ρ' w' σ _ vs ds fr m2 k E Q hh S' R' lx kf q⟩
        | _ => exact k2.elim
theorem ss_tset {tgs : List Expr} {ts : List Tt} {kk : Nat} {pt : Pos} (hc : X.calm = true) (hK : X.K = c.K) (hcm : noComp e = true) (h : STs c X Wx T tgs ts) (he : SE c X Wx e (fvE x) (wE T x)) (hw : swappedStores [.Tuple tgs kk pt] e X.env = pure none) :
    SS c X Wx (.Assign [.Tuple tgs kk pt] e spos) (wS T (.tset ts x)) := by
  obtain ⟨gs, pg, h1, h2, h3⟩ := h
  obtain ⟨te, pe, hte⟩ := he
  refine ⟨_, ps_asg pe (pg_tup hc pg h1 h2) (sole_no hcm) hw (by rfl), fun Wo H0 A0 hd G nf ρ w σ H Pp E D hh S lp lx p => ?_⟩
  unfold wS at p
  refine SemE.go hte hh S lx p fun d fr w1 k v ns H1 r S1 => ?_
  cases d with
  | tup ds =>
    obtain ⟨hl, k⟩ := k
    have V := Vl.of S r
    obtain ⟨rp, org, sep, f1, f2⟩ := V
    cases rp with
    | @tup a xs _ _ st rx =>
      refine ⟨a, xs, rfl, by rw [hK]; exact st, by rw [rx.length]; exact hl, ?_⟩
      by_cases q : (Ev.D.tup ds).pure = true ∨ fr = 2
      · rw [if_pos q] at k
        have hn : ∀ b ∈ ns, Nw H0 hd nf ρ b := fun b hb => by
          rcases q with q | q
          · have := RpA.pure_nil ds rx (by simpa [Ev.D.pure] using q)
            rw [this] at hb; simp at hb
          · exact (f2 (by omega)).2 b hb
        have nd : ns.Nodup := by
          rcases q with q | q
          · have := RpA.pure_nil ds rx (by simpa [Ev.D.pure] using q)
            rw [this]; exact List.nodup_nil
          · exact (f2 (by omega)).1
        exact h3 Wo H0 A0 hd G nf ρ w1 σ H1 xs ds fr ns _ E _ hh S1 ⟨rx, org, fun b hb k ow => (hn b hb).2.1 k ow.mem.2 ow.mem.1, fun _ => ⟨nd, hn⟩⟩ lx k fun nf' ρ' w' σ' H' S' kk => lp.nx _ _ kk _ _ _ S'
      · rw [if_neg q] at k
        refine h3 Wo H0 A0 hd G nf _ w1 σ H1 xs ds fr ns _ E _ hh (S1.low (@dg_low (fvE x) ρ).1) ⟨rx, org, fun b hb k ow => ?_, fun f => absurd (.inr f) q⟩ lx k fun nf' ρ' w' σ' H' S' kk => lp.nx _ _ kk _ _ _ S'
        obtain ⟨z1, z2⟩ := S1.dgd ow
        exact sep b hb k z1 z2
  | _ => exact k.elim
end
end Ev

set_option Elab.async false
set_option linter.all false
set_option maxRecDepth 100000
set_option maxHeartbeats 4000000
/-! # EvU: is this text that tree? of expressions -/
namespace Ev
open PySem PySem.Spec PyProof.Rows L2

/-! ### stores that are exchanged -/
def sw2 (sc : Scope) (y1 y2 : Str) (p1 p2 : Pos) (a b : Expr) : Bool :=
  decide (sc.names.lookup y1 = some .local) && decide (sc.names.lookup y2 = some .local) && decide (p2.line = p1.line) && !(y1 == y2) && noStar a && noStar b && !(foldedForSure 8 a && foldedForSure 8 b) && !(constantsAlone 8 a && constantsAlone 8 b)
theorem noStar_m {e : Expr} (h : noStar e = true) : (match e with | .Starred .. => true | _ => false) = false := by
  cases e <;> first | rfl | cases h
theorem sw2_ok {sc : Scope} {y1 y2 : Str} {p1 p2 pt pt2 : Pos} {a b : Expr} {k1 k2 : Nat} {env : Env} (hs : env.scope = sc) (hk : sc.kind = .function) (h : sw2 sc y1 y2 p1 p2 a b = true) :
    swappedStores [.Tuple [.Name y1 p1, .Name y2 p2] k1 pt] (.Tuple [a, b] k2 pt2) env = pure (some [y1, y2]) := by
  unfold sw2 at h
  simp only [Bool.and_eq_true, decide_eq_true_eq, Bool.not_eq_true'] at h
  obtain ⟨⟨⟨⟨⟨⟨⟨h1, h2⟩, h3⟩, h4⟩, h5⟩, h6⟩, h7⟩, h8⟩ := h
  have hb : env.blockKind = .function := by unfold Env.blockKind; rw [hs, hk]; rfl
  have e1 : env.kindOf y1 = some .local := by unfold Env.kindOf; rw [hs]; exact h1
  have e2 : env.kindOf y2 = some .local := by unfold Env.kindOf; rw [hs]; exact h2
  have ne : ¬ y2 = y1 := fun e => by rw [e] at h4; simp at h4
  have ne' : (y1 == y2) = false := h4
  unfold swappedStores
  simp only [hb, e1, e2, Expr.pos, h3, noStar_m h5, noStar_m h6, h7, h8, List.any_cons, List.any_nil, List.all_cons, List.all_nil, List.length_cons, List.length_nil, List.head?_cons, Option.map_some, Option.getD_some, List.filterMap_cons, List.filterMap_nil, Bool.and_true, Bool.or_false, beq_self_eq_true, if_true]
  have : ([y1, y2] : List Str).eraseDups = [y1, y2] := by
    rw [List.eraseDups_cons]
    have : ([y2] : List Str).filter (fun b => !b == y1) = [y2] := by simp [ne]
    rw [this, List.eraseDups_cons]
    simp
  simp [this]
  rintro (h | h)
  · exact absurd h (by cases a <;> first | exact Bool.false_ne_true | cases h5)
  · exact absurd h (by cases b <;> first | exact Bool.false_ne_true | cases h6)
def sw3 (sc : Scope) (y1 y2 y3 : Str) (p1 p2 p3 : Pos) (a b c : Expr) : Bool :=
  decide (sc.names.lookup y1 = some .local) && decide (sc.names.lookup y2 = some .local) && decide (sc.names.lookup y3 = some .local) && decide (p2.line = p1.line) && decide (p3.line = p1.line) && !(y1 == y2) && !(y1 == y3) && !(y2 == y3) && noStar a && noStar b && noStar c &&
    !(foldedForSure 8 a && (foldedForSure 8 b && foldedForSure 8 c)) && !(constantsAlone 8 a && (constantsAlone 8 b && constantsAlone 8 c))
theorem sw3_ok {sc : Scope} {y1 y2 y3 : Str} {p1 p2 p3 pt pt2 : Pos} {a b c : Expr} {k1 k2 : Nat} {env : Env} (hs : env.scope = sc) (hk : sc.kind = .function) (h : sw3 sc y1 y2 y3 p1 p2 p3 a b c = true) :
    swappedStores [.Tuple [.Name y1 p1, .Name y2 p2, .Name y3 p3] k1 pt] (.Tuple [a, b, c] k2 pt2) env = pure (some [y1, y2, y3]) := by
  unfold sw3 at h
  simp only [Bool.and_eq_true, decide_eq_true_eq, Bool.not_eq_true'] at h
  obtain ⟨⟨⟨⟨⟨⟨⟨⟨⟨⟨⟨⟨h1, h2⟩, h3⟩, h4⟩, h5⟩, h6⟩, h7⟩, h8⟩, h9⟩, h10⟩, h11⟩, h12⟩, h13⟩ := h
  have hb : env.blockKind = .function := by unfold Env.blockKind; rw [hs, hk]; rfl
  have e1 : env.kindOf y1 = some .local := by unfold Env.kindOf; rw [hs]; exact h1
  have e2 : env.kindOf y2 = some .local := by unfold Env.kindOf; rw [hs]; exact h2
  have e3 : env.kindOf y3 = some .local := by unfold Env.kindOf; rw [hs]; exact h3
  have n12 : ¬ y2 = y1 := fun e => by rw [e] at h6; simp at h6
  have n13 : ¬ y3 = y1 := fun e => by rw [e] at h7; simp at h7
  have n23 : ¬ y3 = y2 := fun e => by rw [e] at h8; simp at h8
  unfold swappedStores
  simp only [hb, e1, e2, e3, Expr.pos, h4, h5, noStar_m h9, noStar_m h10, noStar_m h11, h12, h13, List.any_cons, List.any_nil, List.all_cons, List.all_nil, List.length_cons, List.length_nil, List.head?_cons, Option.map_some, Option.getD_some, List.filterMap_cons, List.filterMap_nil, Bool.and_true, Bool.or_false, beq_self_eq_true, if_true]
  have : ([y1, y2, y3] : List Str).eraseDups = [y1, y2, y3] := by
    rw [List.eraseDups_cons]
    have : ([y2, y3] : List Str).filter (fun b => !b == y1) = [y2, y3] := by simp [n12, n13]
    rw [this, List.eraseDups_cons]
    have : ([y3] : List Str).filter (fun b => !b == y2) = [y3] := by simp [n23]
    rw [this, List.eraseDups_cons]
    simp
  simp [this]
  rintro (h | h | h)
  · exact absurd h (by cases a <;> first | exact Bool.false_ne_true | cases h9)
  · exact absurd h (by cases b <;> first | exact Bool.false_ne_true | cases h10)
  · exact absurd h (by cases c <;> first | exact Bool.false_ne_true | cases h11)
/-- not a plain local name -/
def isSub (sc : Scope) : Expr → Bool
  | .Name y _ => !(sc.names.lookup y == some .local)
  | _ => true
def swN (sc : Scope) (tgs : List Expr) : Expr → Bool
  | .Tuple vs _ _ => !(tgs.length == 2 || tgs.length == 3) || tgs.any (isSub sc) || vs.all (foldedForSure 8)
  | _ => true
theorem fm_lt {sc : Scope} {f : Expr → Option Str} (hf : ∀ e, isSub sc e = true → f e = none) : ∀ {tgs : List Expr}, tgs.any (isSub sc) = true → (tgs.filterMap f).length < tgs.length
  | [], h => by simp at h
  | t :: ts, h => by
    simp only [List.any_cons, Bool.or_eq_true] at h
    by_cases ht : isSub sc t = true
    · rw [List.filterMap_cons_none (hf t ht)]
      have := List.length_filterMap_le f ts
      simp only [List.length_cons]
      omega
    · have ih := fm_lt hf (h.resolve_left ht)
      rw [List.filterMap_cons]
      split <;> simp only [List.length_cons] <;> omega
theorem swN_ok {sc : Scope} {tgs : List Expr} {e : Expr} {k : Nat} {pt : Pos} {env : Env} (hs : env.scope = sc) (h : swN sc tgs e = true) : swappedStores [.Tuple tgs k pt] e env = pure none := by
  cases e with
  | Tuple vs k2 p2 =>
    simp only [swN, Bool.or_eq_true] at h
    unfold swappedStores
    dsimp only
    rcases h with (h | h) | h
    · rw [if_pos (by simp only [h, Bool.true_or])]
    · split
      · rfl
      split
      · rfl
      rw [if_pos]
      rw [Bool.or_eq_true]
      left
      have := fm_lt (f := fun x => match x with | .Name id pos => if (env.kindOf id == some .local && pos.line == (Option.map (fun x => x.pos.line) tgs.head?).getD 0) = true then some id else none | _ => none) (fun e he => by
        cases e <;> first
          | rfl
          | (have he : (!(sc.names.lookup _ == some .local)) = true := he
             have ek : ∀ y, env.kindOf y = sc.names.lookup y := fun y => by unfold Env.kindOf; rw [hs]
             simp only [ek]
             simp only [Bool.not_eq_true'] at he
             rw [he]
             rfl)) h
      exact bne_iff_ne.mpr (Nat.ne_of_lt this)
    · split
      · rfl
      split
      · rfl
      split
      · rfl
      · first
          | rfl
          | rw [if_pos h]
  | _ => rfl
end Ev

set_option Elab.async false
set_option linter.all false
set_option maxRecDepth 100000
set_option maxHeartbeats 4000000
/-! # EvV: is this expression that tree?; the soundness of the reading -/
namespace Ev
open PySem PySem.Spec PyProof.Rows L2

def glB (sc : Scope) (x : Str) : Bool := decide (sc.names.lookup x = some .globalImplicit)
def visB (sc : Scope) (x : Str) : Bool := match sc.names.lookup x with
  | some .local => true
  | some .cell => true
  | some .free => true
  | _ => false
def locB (sc : Scope) (x : Str) : Bool := match sc.names.lookup x with
  | some .local => true
  | some .cell => true
  | _ => false
def noDb (x : Str) : Bool := !(x == ("__debug__" : Str))
def varB (cc : CC) (sc : Scope) (i : Nat) (x : Str) : Bool := decide (cc.N[i]? = some x) && visB sc x && noDb x && !(x == ("__classdict__" : Str))
def stoB (cc : CC) (fb : Str → Bool) (sc : Scope) (i : Nat) (x : Str) : Bool := decide (cc.N[i]? = some x) && locB sc x && (fb x || decide (sc.names.lookup x = some .local))
def isBl (cc : CC) (x : Str) : Bool := decide (x ∈ cc.bl)
def tgEach (cc : CC) (fb : Str → Bool) (sc : Scope) : List Nat → List Expr → Bool
  | [], [] => true
  | i :: is, .Name x _ :: es => stoB cc fb sc i x && tgEach cc fb sc is es
  | _, _ => false
def okTg (cc : CC) (fb : Str → Bool) (sc : Scope) : Tg → Expr → Bool
  | .nm i, .Name x _ => stoB cc fb sc i x
  | .tp is, .Tuple es _ _ => tgEach cc fb sc is es && decide is.Nodup
  | _, _ => false
abbrev blF (scope : Scope) : Str → Bool := fun x => scope.names.lookup x == some .cell
mutual
/-- may this be tested as it stands? -/
def tsX : Ex → Bool
  | .nt a => tsX a
  | .ands a es => tsX a && tsXs es
  | .ors a es => tsX a && tsXs es
  | .cmp _ _ _ => true
  | .chn _ _ _ _ _ => true
  | .non => true
  | .bl _ => true
  | .var _ => true
  | .cst _ _ => true
  | .idx _ _ => true
  | .call _ _ _ => true
  | .callk _ _ _ _ => true
  | .callv _ _ => true
  | .prim _ _ => true
  | .isi _ _ => true
  | .callw _ _ _ => true
  | _ => false
def tsXs : Exs → Bool
  | .nil => true
  | .cons e es => tsX e && tsXs es
  | .star _ _ => false
end
mutual
def okE (cc : CC) : Ex → (Str → Bool) → Scope → Expr → Bool
  | .emp, _, _, e => match e with
    | .Dict [] [] _ => true
    | _ => false
  | .dc1 k i, _, _, e => match e with
    | .Dict [some (.Constant (.str k') _ _)] [.Constant (.int i') _ _] _ => decide (k = k') && decide (i = i')
    | _ => false
  | .non, _, _, e => match e with
    | .Constant .none _ _ => true
    | _ => false
  | .bl b, _, _, e => match e with
    | .Constant (.bool b') _ _ => b == b'
    | _ => false
  | .int i, _, _, e => match e with
    | .Constant (.int j) _ _ => decide (i = j)
    | _ => false
  | .str s, _, _, e => match e with
    | .Constant (.str t) _ _ => decide (s = t)
    | _ => false
  | .var i, _, sc, e => match e with
    | .Name x _ => varB cc sc i x
    | _ => false
  | .cst x m, _, sc, e => match e with
    | .Name y _ => decide (y = x) && decide (cc.cs[m]? = some x) && glB sc x
    | _ => false
  | .fnc x g, _, sc, e => match e with
    | .Name y _ => decide (y = x) && decide (cc.fs[g]? = some x) && glB sc x && noDb x
    | _ => false
  | .tup xs, fb, sc, e => match e with
    | .Tuple es _ _ => okEs cc xs fb sc es
    | _ => false
  | .lst xs, fb, sc, e => match e with
    | .List es _ => okEs cc xs fb sc es
    | _ => false
  | .bin o a b, fb, sc, e => match e with
    | .BinOp a' o' b' _ => decide (o' = boOp o) && okE cc a fb sc a' && okE cc b fb sc b'
    | _ => false
  | .neg a, fb, sc, e => match e with
    | .UnaryOp .USub a' _ => okE cc a fb sc a'
    | _ => false
  | .cmp o a b, fb, sc, e => match e with
    | .Compare a' [o'] [b'] _ => decide (o' = coOp o) && noSet b' && okE cc a fb sc a' && okE cc b fb sc b'
    | _ => false
  | .chn o p a b d, fb, sc, e => match e with
    | .Compare a' [o', p'] [b', d'] _ => decide (o' = coOp o) && decide (p' = coOp p) && noSet d' && okE cc a fb sc a' && okE cc b fb sc b' && okE cc d fb sc d'
    | _ => false
  | .ands a es, fb, sc, e => match e with
    | .BoolOp .And (a' :: b' :: es') _ => okE cc a fb sc a' && okEs cc es fb sc (b' :: es')
    | _ => false
  | .ors a es, fb, sc, e => match e with
    | .BoolOp .Or (a' :: b' :: es') _ => okE cc a fb sc a' && okEs cc es fb sc (b' :: es')
    | _ => false
  | .nt a, fb, sc, e => match e with
    | .UnaryOp .Not a' _ => okE cc a fb sc a'
    | _ => false
  | .ife c a b, fb, sc, e => match e with
    | .IfExp c' a' b' _ => tsX c && okE cc c fb sc c' && okE cc a fb sc a' && okE cc b fb sc b'
    | _ => false
  | .idx a i, fb, sc, e => match e with
    | .Subscript a' i' _ => noSlice i' && okE cc a fb sc a' && okE cc i fb sc i'
    | _ => false
  | .slc a lo hi, fb, sc, e => match e with
    | .Subscript a' (.Slice lo' hi' none _) _ => okE cc a fb sc a' && okO cc lo fb sc lo' && okO cc hi fb sc hi'
    | _ => false
  | .rev a, fb, sc, e => match e with
    | .Subscript a' (.Slice none none (some (.UnaryOp .USub (.Constant (.int 1) _ _) _)) _) _ => okE cc a fb sc a'
    | _ => false
  | .pur a, fb, sc, e => okE cc a fb sc e
  | .call x g es, fb, sc, e => match e with
    | .Call (.Name y _) es' [] _ => decide (y = x) && decide (cc.fs[g]? = some x) && glB sc x && es'.all noStar && okEs cc es fb sc es'
    | _ => false
  | .callk x m es ks, fb, sc, e => match e with
    | .Call (.Name y _) es' kws _ => decide (y = x) && (match cc.ks[m]? with
      | some (x', kn) => decide (x' = x) && decide (kwNames kws = kn.map some)
      | none => false) && glB sc x && es'.all noStar && okEs cc es fb sc es' && okKs cc ks fb sc kws
    | _ => false
  | .callv i es, fb, sc, e => match e with
    | .Call (.Name y _) (e' :: es') [] _ => varB cc sc i y && (e' :: es').all noStar && okEs cc es fb sc (e' :: es')
    | _ => false
  | .callw x g a, fb, sc, e => match e with
    | .Call (.Name y _) [a'] [] _ => decide (y = x) && decide (cc.fs[g]? = some x) && glB sc x && noStar a' && okE cc a fb sc a'
    | _ => false
  | .lrg es, fb, sc, e => match e with
    | .Call (.Name l _) [.Call (.Name r _) es' [] _] [] _ => decide (l = "list") && decide (r = "range") && isBl cc l && isBl cc r && glB sc l && glB sc r && es'.all noStar && okR es && okEs cc es fb sc es'
    | _ => false
  | .prim p es, fb, sc, e => match e with
    | .Call (.Name y _) (e' :: es') [] _ => decide (y = prName p) && glB sc y && (match p with
      | .gcd => cc.gcd
      | _ => isBl cc y) && (e' :: es').all noStar && okEs cc es fb sc (e' :: es')
    | _ => false
  | .isi a t, fb, sc, e => match e with
    | .Call (.Name y _) [a', .Name z _] [] _ => decide (y = "isinstance") && decide (z = tyName t) && isBl cc y && isBl cc z && glB sc y && glB sc z && noStar a' && okE cc a fb sc a'
    | _ => false
  | .lc own x t i c, fb, sc, e => match e with
    | .ListComp e' [⟨tg, it, ifs, ia⟩] scope _ => decide (ia = 0) && blkC cc.N sc scope own && okTg cc (blF scope) (relS scope sc) t tg && decide (tgl t).Nodup && (tgl t).all (fun i => decide (i ∈ own.map (·.2))) && noSet it && okI cc i fb sc tg it && okC cc c (blF scope) (relS scope sc) ifs && okE cc x (blF scope) (relS scope sc) e'
    | _ => false
  | .lc2 own x t i c t2 i2 c2, fb, sc, e => match e with
    | .ListComp e' [⟨tg, it, ifs, ia⟩, ⟨tg2, it2, ifs2, ia2⟩] scope _ => decide (ia = 0) && decide (ia2 = 0) && blkC cc.N sc scope own && okTg cc (blF scope) (relS scope sc) t tg && decide (tgl t).Nodup && (tgl t).all (fun i => decide (i ∈ own.map (·.2))) && noSet it && okI cc i fb sc tg it && okC cc c (blF scope) (relS scope sc) ifs &&
        okTg cc (blF scope) (relS scope sc) t2 tg2 && decide (tgl t2).Nodup && (tgl t2).all (fun i => decide (i ∈ own.map (·.2))) && noSet it2 && okI cc i2 (blF scope) (relS scope sc) tg2 it2 && okC cc c2 (blF scope) (relS scope sc) ifs2 && okE cc x (blF scope) (relS scope sc) e'
    | _ => false
def okEs (cc : CC) : Exs → (Str → Bool) → Scope → List Expr → Bool
  | .nil, _, _, es => es.isEmpty
  | .cons x xs, fb, sc, es => match es with
    | e :: es => noStar e && okE cc x fb sc e && okEs cc xs fb sc es
    | [] => false
  | .star x xs, fb, sc, es => match es with
    | .Starred e _ :: es => okE cc x fb sc e && okEs cc xs fb sc es
    | _ => false
def okKs (cc : CC) : Exs → (Str → Bool) → Scope → List Keyword → Bool
  | .nil, _, _, ks => ks.isEmpty
  | .cons x xs, fb, sc, ks => match ks with
    | ⟨_, e, _⟩ :: ks => okE cc x fb sc e && okKs cc xs fb sc ks
    | [] => false
  | .star _ _, _, _, _ => false
def okR : Exs → Bool
  | .cons _ .nil => true
  | .cons _ (.cons _ .nil) => true
  | _ => false
def okR3 : Exs → Bool
  | .cons _ .nil => true
  | .cons _ (.cons _ .nil) => true
  | .cons _ (.cons _ (.cons _ .nil)) => true
  | _ => false
def okO (cc : CC) : Ox → (Str → Bool) → Scope → Option Expr → Bool
  | .no, _, _, e => e.isNone
  | .ex x, fb, sc, e => match e with
    | some e => okE cc x fb sc e
    | none => false
def okC (cc : CC) : Ox → (Str → Bool) → Scope → List Expr → Bool
  | .no, _, _, es => es.isEmpty
  | .ex x, fb, sc, es => match es with
    | [e] => tsX x && okE cc x fb sc e
    | _ => false
def okI (cc : CC) : Ix → (Str → Bool) → Scope → Expr → Expr → Bool
  | .seq x, fb, sc, tg, e => okE cc x fb sc e
  | .rng es, fb, sc, tg, e => match e with
    | .Call (.Name r _) es' [] _ => decide (r = "range") && isBl cc r && glB sc r && es'.all noStar && okR3 es && okEs cc es fb sc es'
    | _ => false
  | .enu x, fb, sc, tg, e => match tg, e with
    | .Tuple _ _ _, .Call (.Name y _) [e'] [] _ => decide (y = "enumerate") && isBl cc y && glB sc y && noStar e' && okE cc x fb sc e'
    | _, _ => false
  | .zip x y, fb, sc, tg, e => match tg, e with
    | .Tuple _ _ _, .Call (.Name z _) [a', b'] [] _ => decide (z = "zip") && isBl cc z && glB sc z && noStar a' && noStar b' && okE cc x fb sc a' && okE cc y fb sc b'
    | _, _ => false
end
end Ev

set_option Elab.async false
set_option linter.all false
set_option maxRecDepth 100000
set_option maxHeartbeats 8000000
/-! # EvW: the soundness of the reading of expressions -/
namespace Ev
open PySem PySem.Spec PyProof.Rows L2

section
variable {c : Kx} {X : Cx} {Wx : WX} {T : Tab} {cc : CC} {k : Nat} {sc scope : Scope} {fb : Str → Bool} {n : Str} {i g m : Nat}
theorem se_false {e : Expr} {fv : List Nat} : SE c X Wx e fv (fun _ _ _ _ => False) := ⟨fun _ _ _ => False, ⟨fun _ _ _ _ _ _ h => h.elim⟩, fun Wo nf ρ w σ H K E Q S l lx p => p⟩
theorem glB_ok (hs : X.env.scope = sc) (h : glB sc n = true) : Gl X n := by
  unfold glB at h
  unfold Gl Env.kindOf
  rw [hs]
  exact of_decide_eq_true h
theorem visB_ok (hs : X.env.scope = sc) (h : visB sc n = true) : Vis X.env.scope n := by
  unfold visB at h
  unfold Vis
  rw [hs]
  split at h <;> simp_all
theorem locB_ok (hs : X.env.scope = sc) (h : locB sc n = true) : L2.Loc X.env.scope n := by
  unfold locB at h
  unfold L2.Loc
  rw [hs]
  split at h <;> simp_all
theorem noDb_ok (h : noDb n = true) : (n == ("__debug__" : Str)) = false := by
  unfold noDb at h
  simpa using h
theorem varB_ok (o : XOk cc c T k X Wx) (hs : X.env.scope = sc) (h : varB cc sc i n = true) : VarOk X i n := by
  unfold varB at h
  simp only [Bool.and_eq_true, decide_eq_true_eq, Bool.not_eq_true'] at h
  obtain ⟨⟨⟨h1, h2⟩, h3⟩, h4⟩ := h
  exact ⟨by rw [o.N]; exact h1, visB_ok hs h2, noDb_ok h3, h4⟩
theorem stoB_ok (o : XOk cc c T k X Wx) (hs : X.env.scope = sc) (hf : X.fn = fb) (h : stoB cc fb sc i n = true) : X.N[i]? = some n ∧ L2.Loc X.env.scope n ∧ (X.fn n = true ∨ X.env.scope.names.lookup n = some .local) := by
  unfold stoB at h
  simp only [Bool.and_eq_true, Bool.or_eq_true, decide_eq_true_eq] at h
  obtain ⟨⟨h1, h2⟩, h3⟩ := h
  exact ⟨by rw [o.N]; exact h1, locB_ok hs h2, by rw [hf, hs]; exact h3⟩
theorem tgEach_ok (o : XOk cc c T k X Wx) (hs : X.env.scope = sc) (hf : X.fn = fb) : ∀ {is : List Nat} {es : List Expr}, tgEach cc fb sc is es = true → is.length = es.length ∧ ∀ (j i : Nat) (e : Expr), is[j]? = some i → es[j]? = some e → ∃ x p, e = Expr.Name x p ∧ X.N[i]? = some x ∧ L2.Loc X.env.scope x ∧ (X.fn x = true ∨ X.env.scope.names.lookup x = some .local)
  | [], [], _ => ⟨rfl, fun j i e h => by simp at h⟩
  | i :: is, e :: es, h => by
    cases e <;> simp only [tgEach, Bool.and_eq_true] at h <;> try (exact absurd h Bool.false_ne_true)
    rename_i x p
    obtain ⟨h1, h2⟩ := h
    obtain ⟨l, a⟩ := tgEach_ok o hs hf h2
    refine ⟨by simp [l], fun j i' e' q1 q2 => ?_⟩
    cases j with
    | zero =>
      simp at q1 q2
      subst q1; subst q2
      exact ⟨x, p, rfl, stoB_ok o hs hf h1⟩
    | succ j => exact a j i' e' (by simpa using q1) (by simpa using q2)
  | [], _ :: _, h => by simp [tgEach] at h
  | _ :: _, [], h => by simp [tgEach] at h
theorem okTg_ok (o : XOk cc c T k X Wx) (hs : X.env.scope = sc) (hf : X.fn = fb) {t : Tg} {e : Expr} (h : okTg cc fb sc t e = true) : TgOk X t e := by
  unfold okTg at h
  split at h
  · exact stoB_ok o hs hf h
  · simp only [Bool.and_eq_true] at h
    exact tgEach_ok o hs hf h.1
  · cases h
theorem isBl_ok (o : XOk cc c T k X Wx) (h : isBl cc n = true) : X.mg n = none := o.bl n (of_decide_eq_true h)
theorem XOk.blk (o : XOk cc c T k X Wx) (b : BI) : XOk cc c T k (bkc X scope b) WF :=
  { K := o.K, N := o.N, nd := o.nd, calm := o.calm, room := o.room, gd := o.gd, po := PassesOwn.never, tk := fun u s' ⟨a, B, sI, pins, σ, H, cls, d, e, I, nb, up, sky, na, os, ag, w⟩ => w.elim,
    fn := fun g x h => let F := o.fn g x h; { ex := F.ex, kp := F.kp, mg := F.mg, db := F.db }, kw := fun m x ks h => let F := o.kw m x ks h; { ex := F.ex, db := F.db },
    cv := fun g h => let F := o.cv g h; { ex := F.ex, kp := F.kp }, cst := o.cst, bl := o.bl, gcd := o.gcd,
    er := fun g x b h => let F := o.er g x b h; { mg := F.mg, db := F.db, isa := F.isa, xf := F.xf, bare := F.bare, one := F.one }, exm := o.exm, fl := o.fl, rm := o.rm, kit := o.kit, eb := o.eb }
theorem noSet_fold {it : Expr} {env : Env} (h : noSet it = true) : ∀ x, foldedSetIterable it env x = pure x := by
  cases it <;> first
    | (intro _; rfl)
    | cases h
theorem and_star {es : List Expr} {pos : Pos} {op : BoolOp} {fv : List Nat} {P : Slots → Wl → KE → XQ → Prop} (h : ∀ ρ w K E, ¬ P ρ w K E) : SE c X Wx (.BoolOp op es pos) fv P :=
  ⟨fun _ _ _ => False, ⟨fun _ _ _ _ _ _ h => h.elim⟩, fun Wo nf ρ w σ H K E Q S l lx p => h _ _ _ _ p⟩
end

mutual
theorem ok_e {cc : CC} {c : Kx} {T : Tab} {k : Nat} : ∀ (x : Ex) {X : Cx} {Wx : WX} {fb : Str → Bool} {sc : Scope} {e : Expr}, XOk cc c T k X Wx → X.env.scope = sc → X.fn = fb → okE cc x fb sc e = true →
    SE c X Wx e (fvE x) (wE T x) ∧ (tsX x = true → STt c X Wx e (wE T x))
  | .emp, X, Wx, fb, sc, e, o, hs, hf, h => by
    unfold okE at h
    split at h
    · exact ⟨se_emp, fun q => by cases q⟩
    · cases h
  | .dc1 k i, X, Wx, fb, sc, e, o, hs, hf, h => by
    unfold okE at h
    split at h
    · simp only [Bool.and_eq_true, decide_eq_true_eq] at h
      obtain ⟨rfl, rfl⟩ := h
      exact ⟨se_dc1, fun q => by cases q⟩
    · cases h
  | .non, X, Wx, fb, sc, e, o, hs, hf, h => by
    unfold okE at h
    split at h
    · exact ⟨se_non, fun _ => st_val se_non (fv := []) rfl⟩
    · cases h
  | .bl b, X, Wx, fb, sc, e, o, hs, hf, h => by
    unfold okE at h
    split at h
    · rename_i b' _ _
      have h : b = b' := by simpa using h
      subst h
      exact ⟨se_bl, fun _ => st_val se_bl (fv := []) rfl⟩
    · cases h
  | .int i, X, Wx, fb, sc, e, o, hs, hf, h => by
    unfold okE at h
    split at h
    · have h := of_decide_eq_true h
      subst h
      exact ⟨se_int, fun q => by cases q⟩
    · cases h
  | .str s, X, Wx, fb, sc, e, o, hs, hf, h => by
    unfold okE at h
    split at h
    · have h := of_decide_eq_true h
      subst h
      exact ⟨se_str, fun q => by cases q⟩
    · cases h
  | .var i, X, Wx, fb, sc, e, o, hs, hf, h => by
    unfold okE at h
    split at h
    · have V := varB_ok o hs h
      have S := fun pos => se_var (pos := pos) (c := c) (T := T) (Wx := Wx) V.N V.vis V.db V.cd
      exact ⟨S _, fun _ => st_val (S _) rfl⟩
    · cases h
  | .cst x m, X, Wx, fb, sc, e, o, hs, hf, h => by
    unfold okE at h
    split at h
    · simp only [Bool.and_eq_true, decide_eq_true_eq] at h
      obtain ⟨⟨rfl, h2⟩, h3⟩ := h
      obtain ⟨u, v, q1, q2, q3, q4, q5⟩ := o.cst _ _ h2
      have S := fun pos => se_cst (pos := pos) (Wx := Wx) (fv := []) (glB_ok hs h3) q1 q2 q3 q4 q5
      exact ⟨S _, fun _ => st_val (S _) rfl⟩
    · cases h
  | .fnc x g, X, Wx, fb, sc, e, o, hs, hf, h => by
    unfold okE at h
    split at h
    · simp only [Bool.and_eq_true, decide_eq_true_eq] at h
      obtain ⟨⟨⟨rfl, h2⟩, h3⟩, h4⟩ := h
      exact ⟨se_fnc (glB_ok hs h3) (o.fn _ _ h2).mg (noDb_ok h4), fun q => by cases q⟩
    · cases h
  | .tup xs, X, Wx, fb, sc, e, o, hs, hf, h => by
    unfold okE at h
    split at h
    · exact ⟨se_tup (ok_es xs o hs hf h), fun q => by cases q⟩
    · cases h
  | .lst xs, X, Wx, fb, sc, e, o, hs, hf, h => by
    unfold okE at h
    split at h
    · exact ⟨se_lst (ok_es xs o hs hf h), fun q => by cases q⟩
    · cases h
  | .bin op a b, X, Wx, fb, sc, e, o, hs, hf, h => by
    unfold okE at h
    split at h
    · simp only [Bool.and_eq_true, decide_eq_true_eq] at h
      obtain ⟨⟨rfl, h2⟩, h3⟩ := h
      exact ⟨se_bin o.K (ok_e a o hs hf h2).1 (ok_e b o hs hf h3).1, fun q => by cases q⟩
    · cases h
  | .neg a, X, Wx, fb, sc, e, o, hs, hf, h => by
    unfold okE at h
    split at h
    · exact ⟨se_neg (ok_e a o hs hf h).1, fun q => by cases q⟩
    · cases h
  | .cmp op a b, X, Wx, fb, sc, e, o, hs, hf, h => by
    unfold okE at h
    split at h
    · simp only [Bool.and_eq_true, decide_eq_true_eq] at h
      obtain ⟨⟨⟨rfl, h2⟩, h3⟩, h4⟩ := h
      have s1 := (ok_e a o hs hf h3).1
      have s2 := (ok_e b o hs hf h4).1
      exact ⟨se_cmp o.K o.room s1 s2 h2, fun _ => st_cmp o.K o.room s1 s2 h2⟩
    · cases h
  | .chn o1 o2 a b d, X, Wx, fb, sc, e, o, hs, hf, h => by
    unfold okE at h
    split at h
    · simp only [Bool.and_eq_true, decide_eq_true_eq] at h
      obtain ⟨⟨⟨⟨⟨rfl, rfl⟩, h2⟩, h3⟩, h4⟩, h5⟩ := h
      have s1 := (ok_e a o hs hf h3).1
      have s2 := (ok_e b o hs hf h4).1
      have s3 := (ok_e d o hs hf h5).1
      exact ⟨se_chn o.K o.room s1 s2 s3 h2, fun _ => st_chn o.K o.room s1 s2 s3 h2⟩
    · cases h
  | .ands a es, X, Wx, fb, sc, e, o, hs, hf, h => by
    unfold okE at h
    split at h
    · simp only [Bool.and_eq_true] at h
      have s1 := ok_e a o hs hf h.1
      have s2 := fun pos => ok_and es (pos := pos) o hs hf h.2 (by simp)
      refine ⟨and_step s1.1 (s2 _).1, fun q => ?_⟩
      simp only [tsX, Bool.and_eq_true] at q
      exact (st_and_step (s1.2 q.1) ((s2 _).2 q.2)).st
    · cases h
  | .ors a es, X, Wx, fb, sc, e, o, hs, hf, h => by
    unfold okE at h
    split at h
    · simp only [Bool.and_eq_true] at h
      have s1 := ok_e a o hs hf h.1
      have s2 := fun pos => ok_or es (pos := pos) o hs hf h.2 (by simp)
      refine ⟨or_step s1.1 (s2 _).1, fun q => ?_⟩
      simp only [tsX, Bool.and_eq_true] at q
      exact (st_or_step (s1.2 q.1) ((s2 _).2 q.2)).st
    · cases h
  | .nt a, X, Wx, fb, sc, e, o, hs, hf, h => by
    unfold okE at h
    split at h
    · have s1 := ok_e a o hs hf h
      exact ⟨se_nt s1.1, fun q => st_nt (s1.2 (by simpa [tsX] using q))⟩
    · cases h
  | .ife d a b, X, Wx, fb, sc, e, o, hs, hf, h => by
    unfold okE at h
    split at h
    · simp only [Bool.and_eq_true] at h
      obtain ⟨⟨⟨h1, h2⟩, h3⟩, h4⟩ := h
      exact ⟨se_ife ((ok_e d o hs hf h2).2 h1) (ok_e a o hs hf h3).1 (ok_e b o hs hf h4).1, fun q => by cases q⟩
    · cases h
  | .idx a i, X, Wx, fb, sc, e, o, hs, hf, h => by
    unfold okE at h
    split at h
    · simp only [Bool.and_eq_true] at h
      obtain ⟨⟨h1, h2⟩, h3⟩ := h
      have S := fun pos => se_idx (pos := pos) o.K (ok_e a o hs hf h2).1 (ok_e i o hs hf h3).1 h1
      exact ⟨S _, fun _ => st_val (S _) rfl⟩
    · cases h
  | .slc a lo hi, X, Wx, fb, sc, e, o, hs, hf, h => by
    unfold okE at h
    split at h
    · simp only [Bool.and_eq_true] at h
      obtain ⟨⟨h1, h2⟩, h3⟩ := h
      exact ⟨(se_slc o.K (ok_e a o hs hf h1).1 (ok_o lo o hs hf h2) (ok_o hi o hs hf h3)).mono fun i q => by simp [fvE, q], fun q => by cases q⟩
    · cases h
  | .rev a, X, Wx, fb, sc, e, o, hs, hf, h => by
    unfold okE at h
    split at h
    · exact ⟨se_rev o.K (ok_e a o hs hf h).1, fun q => by cases q⟩
    · cases h
  | .pur a, X, Wx, fb, sc, e, o, hs, hf, h => by
    unfold okE at h
    exact ⟨SE.pur (ok_e a o hs hf h).1, fun q => by cases q⟩
  | .call x g es, X, Wx, fb, sc, e, o, hs, hf, h => by
    unfold okE at h
    split at h
    · simp only [Bool.and_eq_true, decide_eq_true_eq] at h
      obtain ⟨⟨⟨⟨rfl, h2⟩, h3⟩, h4⟩, h5⟩ := h
      have F := o.fn _ _ h2
      have S := fun p' pos => se_call (pos := pos) (p := p') o.room o.gd o.tk F (glB_ok hs h3) F.db (ok_es es o hs hf h5) h4 (fun z => by
        subst z
        cases es with
        | nil => rfl
        | cons _ _ => simp [okEs] at h5
        | star _ _ => simp [okEs] at h5)
      exact ⟨S _ _, fun _ => st_val (S _ _) rfl⟩
    · cases h
  | .callk x m es ks, X, Wx, fb, sc, e, o, hs, hf, h => by
    unfold okE at h
    split at h
    · simp only [Bool.and_eq_true, decide_eq_true_eq] at h
      obtain ⟨⟨⟨⟨⟨rfl, h2⟩, h3⟩, h4⟩, h5⟩, h6⟩ := h
      split at h2
      · rename_i x' kn hm
        simp only [Bool.and_eq_true, decide_eq_true_eq] at h2
        obtain ⟨rfl, h7⟩ := h2
        have F := o.kw _ _ _ hm
        have S := fun p' pos => se_callk (pos := pos) (p := p') o.room o.gd o.tk F (glB_ok hs h3) (ok_es es o hs hf h5) (ok_ks ks o hs hf h6) h4 (fun z => by
          subst z
          cases es with
          | nil => rfl
          | cons _ _ => simp [okEs] at h5
          | star _ _ => simp [okEs] at h5) h7
        exact ⟨S _ _, fun _ => st_val (S _ _) rfl⟩
      · cases h2
    · cases h
  | .callv i es, X, Wx, fb, sc, e, o, hs, hf, h => by
    unfold okE at h
    split at h
    · simp only [Bool.and_eq_true] at h
      obtain ⟨⟨h1, h2⟩, h3⟩ := h
      have V := varB_ok o hs h1
      have S := fun p' pos => se_callv (pos := pos) (p := p') o.room o.gd o.tk V.N V.vis V.db V.cd o.cv (ok_es es o hs hf h3) h2
      exact ⟨S _ _, fun _ => st_val (S _ _) rfl⟩
    · cases h
  | .callw x g a, X, Wx, fb, sc, e, o, hs, hf, h => by
    unfold okE at h
    split at h
    · simp only [Bool.and_eq_true, decide_eq_true_eq] at h
      obtain ⟨⟨⟨⟨rfl, h2⟩, h3⟩, h4⟩, h5⟩ := h
      have F := o.fn _ _ h2
      have S := fun p' pos => se_callw (pos := pos) (p := p') o.room o.gd o.tk F (glB_ok hs h3) F.db (ok_e a o hs hf h5).1 h4
      exact ⟨S _ _, fun _ => st_val (S _ _) rfl⟩
    · cases h
  | .lrg es, X, Wx, fb, sc, e, o, hs, hf, h => by
    unfold okE at h
    split at h
    · simp only [Bool.and_eq_true, decide_eq_true_eq] at h
      obtain ⟨⟨⟨⟨⟨⟨⟨⟨rfl, rfl⟩, h2⟩, h3⟩, h4⟩, h5⟩, h6⟩, h7⟩, h8⟩ := h
      refine ⟨?_, fun q => by cases q⟩
      rename_i es' _ _
      cases es with
      | nil => cases h7
      | star _ _ => cases h7
      | cons a r =>
        cases es' with
        | nil => simp [okEs] at h8
        | cons e' r' =>
          simp only [okEs, Bool.and_eq_true] at h8
          obtain ⟨⟨n1, a1⟩, h8⟩ := h8
          cases r with
          | nil =>
            have : r' = [] := by simpa [okEs] using h8
            subst this
            have := fun p p2 pos2 pos => se_lrg1 (pos := pos) (p := p) (p2 := p2) (pos2 := pos2) o.calm (glB_ok hs h4) (isBl_ok o h2) (glB_ok hs h5) (isBl_ok o h3) (ok_e a o hs hf a1).1 n1
            exact (this _ _ _ _).mono fun i q => by simp only [fvE, fvEs, List.append_nil]; exact q
          | star _ _ => cases h7
          | cons b r =>
            cases r with
            | nil =>
              cases r' with
              | nil => simp [okEs] at h8
              | cons e2 r2 =>
                simp only [okEs, Bool.and_eq_true] at h8
                obtain ⟨⟨n2, a2⟩, h8⟩ := h8
                have : r2 = [] := by simpa [okEs] using h8
                subst this
                have := fun p p2 pos2 pos => se_lrg2 (pos := pos) (p := p) (p2 := p2) (pos2 := pos2) o.calm (glB_ok hs h4) (isBl_ok o h2) (glB_ok hs h5) (isBl_ok o h3) (ok_e a o hs hf a1).1 (ok_e b o hs hf a2).1 n1 n2
                exact (this _ _ _ _).mono fun i q => by
                  simp only [fvE, fvEs, List.append_nil]
                  exact q
            | cons _ _ => cases h7
            | star _ _ => cases h7
    · cases h
  | .prim p es, X, Wx, fb, sc, e, o, hs, hf, h => by
    unfold okE at h
    split at h
    · simp only [Bool.and_eq_true, decide_eq_true_eq] at h
      obtain ⟨⟨⟨⟨rfl, h2⟩, h3⟩, h4⟩, h5⟩ := h
      have S := fun p' pos => se_prim (pos := pos) (p := p') o.K o.calm o.room o.gd (glB_ok hs h2) (fun z => by
        cases p <;> first
          | exact isBl_ok o h3
          | exact absurd rfl z) (fun z => by
        subst z
        exact o.gcd h3) (ok_es es o hs hf h5) h4
      exact ⟨S _ _, fun _ => st_val (S _ _) rfl⟩
    · cases h
  | .isi a t, X, Wx, fb, sc, e, o, hs, hf, h => by
    unfold okE at h
    split at h
    · simp only [Bool.and_eq_true, decide_eq_true_eq] at h
      obtain ⟨⟨⟨⟨⟨⟨⟨rfl, rfl⟩, h2⟩, h3⟩, h4⟩, h5⟩, h6⟩, h7⟩ := h
      have S := fun p p2 pos => se_isi (pos := pos) (p := p) (p2 := p2) o.K (glB_ok hs h4) (isBl_ok o h2) (glB_ok hs h5) (isBl_ok o h3) (ok_e a o hs hf h7).1 h6
      exact ⟨S _ _ _, fun _ => st_val (S _ _ _) rfl⟩
    · cases h
  | .lc own x t i c', X, Wx, fb, sc, e, o, hs, hf, h => by
    unfold okE at h
    split at h
    · rename_i e' tg it ifs ia scope pos
      simp only [Bool.and_eq_true, decide_eq_true_eq, List.all_eq_true] at h
      obtain ⟨⟨⟨⟨⟨⟨⟨⟨rfl, h1⟩, h2⟩, h3⟩, h4⟩, h5⟩, h6⟩, h7⟩, h8⟩ := h
      refine ⟨?_, fun q => by cases q⟩
      have sB : ∀ b, (bkc X scope b).env.scope = relS scope sc := fun b => by rw [← hs]; rfl
      obtain ⟨wi, pi, hwi⟩ := ok_i i o hs hf h6
      obtain ⟨tt, ptt, htt⟩ := uniC (scope := scope) (X := X) (c := c) (ifs := ifs) (P := wC T c') fun b => ok_c c' (o.blk (scope := scope) b) (sB b) rfl h7
      obtain ⟨te, pte, hte⟩ := uniE (scope := scope) (X := X) (c := c) (Wx := WF) (e := e') (fv := fvE x) (P := wE T x) fun b => (ok_e x (o.blk (scope := scope) b) (sB b) rfl h8).1
      have pg : ∀ b : BI, PG (bkc X scope b) tg (gOf c.K t) := fun b => by
        have := pg_of (X := bkc X scope b) (by show X.N.Nodup; rw [o.N]; exact o.nd) o.calm (okTg_ok (o.blk (scope := scope) b) (sB b) rfl h2)
        rw [← o.K]
        exact this
      exact ⟨_, pe_lc o.calm (by rw [o.N]; exact o.nd) pi (blkOk_by (by rw [o.N, hs]; exact h1)) (fun s H C cl fp => pg (s, H, C, cl, fp)) (fun s H C cl fp => ptt (s, H, C, cl, fp)) (fun s H C cl fp => pte (s, H, C, cl, fp)) (noSet_fold h5), sem_lc hwi htt hte h3 h4⟩
    · cases h
  | .lc2 own x t i c' t2 i2 c2, X, Wx, fb, sc, e, o, hs, hf, h => by
    unfold okE at h
    split at h
    · rename_i e' tg it ifs ia tg2 it2 ifs2 ia2 scope pos
      simp only [Bool.and_eq_true, decide_eq_true_eq, List.all_eq_true] at h
      obtain ⟨⟨⟨⟨⟨⟨⟨⟨⟨⟨⟨⟨⟨⟨⟨rfl, rfl⟩, h1⟩, h2⟩, h3⟩, h4⟩, h5⟩, h6⟩, h7⟩, g2⟩, g3⟩, g4⟩, g5⟩, g6⟩, g7⟩, h8⟩ := h
      refine ⟨?_, fun q => by cases q⟩
      have sB : ∀ b, (bkc X scope b).env.scope = relS scope sc := fun b => by rw [← hs]; rfl
      obtain ⟨wi, pi, hwi⟩ := ok_i i o hs hf h6
      obtain ⟨tt, ptt, htt⟩ := uniC (scope := scope) (X := X) (c := c) (ifs := ifs) (P := wC T c') fun b => ok_c c' (o.blk (scope := scope) b) (sB b) rfl h7
      obtain ⟨wi2, pi2, hwi2⟩ := uniI (scope := scope) (X := X) (c := c) (Wx := WF) (tg := tg2) (it := it2) (fv := fvI i2) (P := wI T i2) fun b => ok_i i2 (o.blk (scope := scope) b) (sB b) rfl g6
      obtain ⟨tt2, ptt2, htt2⟩ := uniC (scope := scope) (X := X) (c := c) (ifs := ifs2) (P := wC T c2) fun b => ok_c c2 (o.blk (scope := scope) b) (sB b) rfl g7
      obtain ⟨te, pte, hte⟩ := uniE (scope := scope) (X := X) (c := c) (Wx := WF) (e := e') (fv := fvE x) (P := wE T x) fun b => (ok_e x (o.blk (scope := scope) b) (sB b) rfl h8).1
      have pg : ∀ {t tg}, okTg cc (blF scope) (relS scope sc) t tg = true → ∀ b : BI, PG (bkc X scope b) tg (gOf c.K t) := fun h2 b => by
        have := pg_of (X := bkc X scope b) (by show X.N.Nodup; rw [o.N]; exact o.nd) o.calm (okTg_ok (o.blk (scope := scope) b) (sB b) rfl h2)
        rw [← o.K]
        exact this
      exact ⟨_, pe_lc2 o.calm (by rw [o.N]; exact o.nd) pi (blkOk_by (by rw [o.N, hs]; exact h1)) g4 (fun s H C cl fp => pg h2 (s, H, C, cl, fp)) (fun s H C cl fp => ptt (s, H, C, cl, fp)) (fun s H C cl fp => pi2 (s, H, C, cl, fp)) (fun s H C cl fp => pg g2 (s, H, C, cl, fp)) (fun s H C cl fp => ptt2 (s, H, C, cl, fp)) (fun s H C cl fp => pte (s, H, C, cl, fp)) (noSet_fold h5) (fun env => noSet_fold g5), sem_lc2 hwi htt hwi2 htt2 hte h3 g3 h4⟩
    · cases h
theorem ok_es {cc : CC} {c : Kx} {T : Tab} {k : Nat} : ∀ (xs : Exs) {X : Cx} {Wx : WX} {fb : Str → Bool} {sc : Scope} {es : List Expr}, XOk cc c T k X Wx → X.env.scope = sc → X.fn = fb → okEs cc xs fb sc es = true → SA c X Wx es (fvEs xs) (wEs T xs)
  | .nil, X, Wx, fb, sc, es, o, hs, hf, h => by
    have : es = [] := by simpa [okEs] using h
    subst this
    exact sa_nil
  | .cons x xs, X, Wx, fb, sc, es, o, hs, hf, h => by
    unfold okEs at h
    split at h
    · simp only [Bool.and_eq_true] at h
      exact sa_cons (ok_e x o hs hf h.1.2).1 (ok_es xs o hs hf h.2) h.1.1
    · cases h
  | .star x xs, X, Wx, fb, sc, es, o, hs, hf, h => by
    unfold okEs at h
    split at h
    · simp only [Bool.and_eq_true] at h
      exact sa_star o.K (ok_e x o hs hf h.1).1 (ok_es xs o hs hf h.2)
    · cases h
theorem ok_and {cc : CC} {c : Kx} {T : Tab} {k : Nat} : ∀ (xs : Exs) {X : Cx} {Wx : WX} {fb : Str → Bool} {sc : Scope} {es : List Expr} {pos : Pos}, XOk cc c T k X Wx → X.env.scope = sc → X.fn = fb → okEs cc xs fb sc es = true → es ≠ [] →
    SE c X Wx (.BoolOp .And es pos) (fvEs xs) (wAnd T xs) ∧ (tsXs xs = true → STand c X Wx .And es (wAnd T xs) pos)
  | .nil, X, Wx, fb, sc, es, pos, o, hs, hf, h, hn => by
    have : es = [] := by simpa [okEs] using h
    exact absurd this hn
  | .cons x xs, X, Wx, fb, sc, es, pos, o, hs, hf, h, hn => by
    unfold okEs at h
    split at h
    · rename_i e es
      simp only [Bool.and_eq_true] at h
      have s1 := ok_e x o hs hf h.1.2
      cases es with
      | nil =>
        cases xs with
        | nil => exact ⟨(se_and1 s1.1).mono fun i q => by simp [fvEs, q], fun q => st_and1 (s1.2 (by simpa [tsXs] using q))⟩
        | cons _ _ => simp [okEs] at h
        | star _ _ => simp [okEs] at h
      | cons e2 es =>
        have s2 := ok_and xs (pos := pos) o hs hf h.2 (by simp)
        cases xs with
        | nil => simp [okEs] at h
        | cons y ys =>
          refine ⟨and_step s1.1 s2.1, fun q => ?_⟩
          simp only [tsXs, Bool.and_eq_true] at q
          exact st_and_step (s1.2 q.1) (s2.2 (by simpa [tsXs] using q.2))
        | star y ys =>
          refine ⟨and_step s1.1 s2.1, fun q => ?_⟩
          simp [tsXs] at q
    · cases h
  | .star x xs, X, Wx, fb, sc, es, pos, o, hs, hf, h, hn => ⟨and_star fun _ _ _ _ p => p, fun q => by simp [tsXs] at q⟩
theorem ok_or {cc : CC} {c : Kx} {T : Tab} {k : Nat} : ∀ (xs : Exs) {X : Cx} {Wx : WX} {fb : Str → Bool} {sc : Scope} {es : List Expr} {pos : Pos}, XOk cc c T k X Wx → X.env.scope = sc → X.fn = fb → okEs cc xs fb sc es = true → es ≠ [] →
    SE c X Wx (.BoolOp .Or es pos) (fvEs xs) (wOr T xs) ∧ (tsXs xs = true → STand c X Wx .Or es (wOr T xs) pos)
  | .nil, X, Wx, fb, sc, es, pos, o, hs, hf, h, hn => by
    have : es = [] := by simpa [okEs] using h
    exact absurd this hn
  | .cons x xs, X, Wx, fb, sc, es, pos, o, hs, hf, h, hn => by
    unfold okEs at h
    split at h
    · rename_i e es
      simp only [Bool.and_eq_true] at h
      have s1 := ok_e x o hs hf h.1.2
      cases es with
      | nil =>
        cases xs with
        | nil => exact ⟨(se_or1 s1.1).mono fun i q => by simp [fvEs, q], fun q => st_or1 (s1.2 (by simpa [tsXs] using q))⟩
        | cons _ _ => simp [okEs] at h
        | star _ _ => simp [okEs] at h
      | cons e2 es =>
        have s2 := ok_or xs (pos := pos) o hs hf h.2 (by simp)
        cases xs with
        | nil => simp [okEs] at h
        | cons y ys =>
          refine ⟨or_step s1.1 s2.1, fun q => ?_⟩
          simp only [tsXs, Bool.and_eq_true] at q
          exact st_or_step (s1.2 q.1) (s2.2 (by simpa [tsXs] using q.2))
        | star y ys =>
          refine ⟨or_step s1.1 s2.1, fun q => ?_⟩
          simp [tsXs] at q
    · cases h
  | .star x xs, X, Wx, fb, sc, es, pos, o, hs, hf, h, hn => ⟨and_star fun _ _ _ _ p => p, fun q => by simp [tsXs] at q⟩
theorem ok_ks {cc : CC} {c : Kx} {T : Tab} {k : Nat} : ∀ (xs : Exs) {X : Cx} {Wx : WX} {fb : Str → Bool} {sc : Scope} {ks : List Keyword}, XOk cc c T k X Wx → X.env.scope = sc → X.fn = fb → okKs cc xs fb sc ks = true → SK c X Wx ks (fvEs xs) (wEs T xs)
  | .nil, X, Wx, fb, sc, ks, o, hs, hf, h => by
    have : ks = [] := by simpa [okKs] using h
    subst this
    exact sk_nil
  | .cons x xs, X, Wx, fb, sc, ks, o, hs, hf, h => by
    unfold okKs at h
    split at h
    · simp only [Bool.and_eq_true] at h
      exact sk_cons (ok_e x o hs hf h.1).1 (ok_ks xs o hs hf h.2)
    · cases h
  | .star _ _, X, Wx, fb, sc, ks, o, hs, hf, h => by cases h
theorem ok_o {cc : CC} {c : Kx} {T : Tab} {k : Nat} : ∀ (x : Ox) {X : Cx} {Wx : WX} {fb : Str → Bool} {sc : Scope} {e : Option Expr}, XOk cc c T k X Wx → X.env.scope = sc → X.fn = fb → okO cc x fb sc e = true → SO c X Wx e (wO T x)
  | .no, X, Wx, fb, sc, e, o, hs, hf, h => by
    have : e = none := by simpa [okO] using h
    subst this
    exact so_no
  | .ex x, X, Wx, fb, sc, e, o, hs, hf, h => by
    unfold okO at h
    split at h
    · exact so_ex (ok_e x o hs hf h).1
    · cases h
theorem ok_c {cc : CC} {c : Kx} {T : Tab} {k : Nat} : ∀ (x : Ox) {X : Cx} {fb : Str → Bool} {sc : Scope} {es : List Expr}, XOk cc c T k X WF → X.env.scope = sc → X.fn = fb → okC cc x fb sc es = true → SC c X es (wC T x)
  | .no, X, fb, sc, es, o, hs, hf, h => by
    have : es = [] := by simpa [okC] using h
    subst this
    exact sc_no
  | .ex x, X, fb, sc, es, o, hs, hf, h => by
    unfold okC at h
    split at h
    · simp only [Bool.and_eq_true] at h
      exact sc_ex (Wx := WF) ((ok_e x o hs hf h.2).2 h.1)
    · cases h
theorem ok_i {cc : CC} {c : Kx} {T : Tab} {k : Nat} : ∀ (x : Ix) {X : Cx} {Wx : WX} {fb : Str → Bool} {sc : Scope} {tg e : Expr}, XOk cc c T k X Wx → X.env.scope = sc → X.fn = fb → okI cc x fb sc tg e = true → SI c X Wx tg e (fvI x) (wI T x)
  | .seq x, X, Wx, fb, sc, tg, e, o, hs, hf, h => by
    unfold okI at h
    exact si_seq o.K (ok_e x o hs hf h).1
  | .rng es, X, Wx, fb, sc, tg, e, o, hs, hf, h => by
    unfold okI at h
    split at h
    · simp only [Bool.and_eq_true, decide_eq_true_eq] at h
      obtain ⟨⟨⟨⟨⟨rfl, h2⟩, h3⟩, h4⟩, h5⟩, h8⟩ := h
      rename_i es' _
      cases es with
      | nil => cases h5
      | star _ _ => cases h5
      | cons a r =>
        cases es' with
        | nil => simp [okEs] at h8
        | cons e' r' =>
          simp only [okEs, Bool.and_eq_true] at h8
          obtain ⟨⟨n1, a1⟩, h8⟩ := h8
          cases r with
          | nil =>
            have : r' = [] := by simpa [okEs] using h8
            subst this
            have := fun p pos => si_rng1 (tg := tg) (pos := pos) (p := p) (glB_ok hs h3) (isBl_ok o h2) (ok_e a o hs hf a1).1 n1
            simpa [fvI, fvEs] using this _ _
          | star _ _ => cases h5
          | cons b r =>
            cases r with
            | nil =>
              cases r' with
              | nil => simp [okEs] at h8
              | cons e2 r2 =>
                simp only [okEs, Bool.and_eq_true] at h8
                obtain ⟨⟨n2, a2⟩, h8⟩ := h8
                have : r2 = [] := by simpa [okEs] using h8
                subst this
                have := fun p pos => si_rng2 (fv := fvE a ++ fvE b) (tg := tg) (pos := pos) (p := p) (glB_ok hs h3) (isBl_ok o h2) (ok_e a o hs hf a1).1 (ok_e b o hs hf a2).1 n1 n2
                simpa [fvI, fvEs] using this _ _
            | star _ _ => cases h5
            | cons d r =>
              cases r with
              | star _ _ => cases h5
              | cons _ _ => cases h5
              | nil =>
                cases r' with
                | nil => simp [okEs] at h8
                | cons e2 r2 =>
                  simp only [okEs, Bool.and_eq_true] at h8
                  obtain ⟨⟨n2, a2⟩, h8⟩ := h8
                  cases r2 with
                  | nil => simp [okEs] at h8
                  | cons e3 r3 =>
                    simp only [okEs, Bool.and_eq_true] at h8
                    obtain ⟨⟨n3, a3⟩, h8⟩ := h8
                    have : r3 = [] := by simpa [okEs] using h8
                    subst this
                    have := fun p pos => si_rng3 (fv := fvE a ++ (fvE b ++ fvE d)) (tg := tg) (pos := pos) (p := p) (glB_ok hs h3) (isBl_ok o h2) (ok_e a o hs hf a1).1 (ok_e b o hs hf a2).1 (ok_e d o hs hf a3).1 n1 n2 n3
                    simpa [fvI, fvEs] using this _ _
    · cases h
  | .enu x, X, Wx, fb, sc, tg, e, o, hs, hf, h => by
    unfold okI at h
    split at h
    · simp only [Bool.and_eq_true, decide_eq_true_eq] at h
      obtain ⟨⟨⟨⟨rfl, h2⟩, h3⟩, h4⟩, h5⟩ := h
      exact si_enu o.K (glB_ok hs h3) (isBl_ok o h2) (ok_e x o hs hf h5).1 h4
    · cases h
  | .zip x y, X, Wx, fb, sc, tg, e, o, hs, hf, h => by
    unfold okI at h
    split at h
    · simp only [Bool.and_eq_true, decide_eq_true_eq] at h
      obtain ⟨⟨⟨⟨⟨⟨rfl, h2⟩, h3⟩, h4⟩, h5⟩, h6⟩, h7⟩ := h
      exact si_zip o.K (glB_ok hs h3) (isBl_ok o h2) (ok_e x o hs hf h6).1 (ok_e y o hs hf h7).1 h4 h5
    · cases h
end
end Ev

set_option Elab.async false
set_option linter.all false
set_option maxRecDepth 100000
set_option maxHeartbeats 8000000
/-! # EvX: an item of a row; is this statement that tree?; the soundness of the reading of statements -/
namespace Ev
open PySem PySem.Spec PyProof.Rows L2

/-- a row within a list -/
theorem RpA.inner {c : Kn} {W : Option Addr} {H : Hp} : ∀ {ds : List D} {vs : List V} {ns : List Addr} {m : Nat} {es : List D}, RpA c W H vs ds ns → ns.Nodup → ds[m]? = some (.lst es) →
    ∃ b xs n1 pre post, vs[m]? = some (.ref b) ∧ H b = some (.lst xs) ∧ W ≠ some b ∧ RpA c W H xs es n1 ∧ ns = pre ++ ((b :: n1) ++ post) ∧
      ∀ H' xs' es' n1', Kp [b] H H' → H' b = some (.lst xs') → RpA c W H' xs' es' n1' → RpA c W H' vs (ds.set m (.lst es')) (pre ++ ((b :: n1') ++ post))
  | [], _, _, _, _, h, _, e => by simp at e
  | d :: ds, _, _, 0, es, h, nd, e => by
    cases h with
    | @cons v vs' _ _ n1 n2 r1 r2 =>
      have e : d = .lst es := by simpa using e
      subst e
      cases r1 with
      | @lst b xs _ m h1 h2 h3 =>
        have lb : Ls H [b] := fun a ha => by
          have : a = b := by simpa using ha
          exact ⟨xs, by rw [this]; exact h1⟩
        have hn : b ∉ n2 := fun z => by
          rw [List.nodup_append] at nd
          exact nd.2.2 b (by simp) b z rfl
        refine ⟨b, xs, m, [], n2, rfl, h1, h2, h3, rfl, fun H' xs' es' n1' k e' r' => ?_⟩
        have := RpA.cons (.lst e' h2 r') (r2.keep ds k lb fun a ha z => hn (by
          have : a = b := by simpa using z
          rw [← this]; exact ha))
        simpa using this
  | d :: ds, _, _, m + 1, es, h, nd, e => by
    cases h with
    | @cons v vs' _ _ n1 n2 r1 r2 =>
      rw [List.nodup_append] at nd
      obtain ⟨b, xs, n1', pre, post, h1, h2, h3, h4, h5, h6⟩ := RpA.inner (m := m) r2 nd.2.1 (by simpa using e)
      have lb : Ls H [b] := fun a ha => by
        have : a = b := by simpa using ha
        exact ⟨xs, by rw [this]; exact h2⟩
      refine ⟨b, xs, n1', n1 ++ pre, post, by simpa using h1, h2, h3, h4, by rw [h5, List.append_assoc], fun H' xs' es' n1'' k e' r' => ?_⟩
      have := RpA.cons (r1.keep d k lb fun a ha z => nd.2.2 a ha b (by rw [h5]; simp) (by simpa using z)) (h6 H' xs' es' n1'' k e' r')
      simpa [List.append_assoc] using this

section
variable {c : Kx} {Wo : Option Addr} {H0 H H' H1 H2 : Hp} {A0 hd : List Addr} {G : Hp → Prop} {nf : Nat → List Addr} {ρ ρ1 : Slots} {w w' w1 w2 : Wl} {σ : L2.St} {v u : V} {d y d' : D} {fr fy o : Nat} {ns n2 : List Addr} {fv fv2 : List Nat} {i j : Nat} {a b : Addr}
/-- a list within slot i is written; slot i owns all its lists -/
theorem Sim.wrIn (S : Sim c Wo H0 A0 hd G nf ρ w σ H) (hh : Held hd G) {xs xs' : List V} (e : ρ[i]? = some (some (d, 2))) (eσ : σ[i]? = some (some v)) (hb : b ∈ nf i) (eb : H b = some (.lst xs)) (r : Rp c.toKn Wo (upd H b (.lst xs')) v d' ns) (sub : ∀ a ∈ ns, a ∈ nf i) (nd : ns.Nodup) :
    Sim c Wo H0 A0 hd G (nfS nf i ns) (ρ.set i (some (d', 2))) w σ (upd H b (.lst xs')) := by
  have ow : ∀ a ∈ nf i, Own ρ nf i a := fun a ha => ⟨_, _, e, .inr ⟨Nat.le_refl _, ha⟩⟩
  obtain ⟨n0, nj, nh⟩ := S.own i b (ow b hb)
  have lv : Lv ρ i := ⟨_, _, e⟩
  have nW : Wo ≠ some b := (S.there lv hb).2
  have kw : Kp [b] H (upd H b (.lst xs')) := .wr eb
  have lA : Ls H [b] := fun a ha => by
    have z : a = b := by simpa using ha
    exact ⟨xs, by rw [z]; exact eb⟩
  have k0 : Kp (Ws Wo) H0 (upd H b (.lst xs')) := ⟨fun a u q na => by
    rw [upd_ne (ne_of_none q n0)]
    exact S.kp.keep a u q na, fun a q => by
    by_cases z : a = b
    · rw [z, upd_same] at q; cases q
    · rw [upd_ne z] at q
      exact S.kp.dom a q⟩
  have o' : WOk c.toKn Wo w (upd H b (.lst xs')) := S.wok.keep kw lA fun a q z => by
    have : a = b := by simpa using z
    exact nW (by rw [q, this])
  have S1 : SimE c.toKn Wo (nfS nf i ns) (ρ.set i (some (d', 2))) w σ (upd H b (.lst xs')) := by
    refine ⟨fun j d'' o'' q => ?_, o', by rw [List.length_set]; exact S.len⟩
    by_cases hj : j = i
    · subst hj
      have q := get_set_eq q
      cases q
      refine ⟨v, eσ, ?_⟩
      have : nfS nf j ns j = ns := by simp [nfS]
      rw [this]
      exact r
    · obtain ⟨v', h2, h3⟩ := S.slot j d'' o'' (get_set_ne hj q)
      refine ⟨v', h2, ?_⟩
      have : nfS nf i ns j = nf j := by simp [nfS, hj]
      rw [this]
      refine h3.keep _ kw lA fun a ha z => nj j hj ⟨_, _, get_set_ne hj q⟩ ?_
      have : a = b := by simpa using z
      rw [← this]; exact ha
  refine ⟨S1, k0, fun j lv' a ha => ?_, fun k a h => ?_, fun k d'' o'' q ho es a m q2 => ?_, fun k d'' o'' q ho => ?_, fun a ha => ?_, hh [b] _ _ S.g kw lA fun a ha z => ?_⟩
  · by_cases hj : j = i
    · subst hj
      exact S.org j lv a (sub a (by simpa [nfS] using ha))
    · exact S.org j ((lv_set hj).mp lv') a (by simpa [nfS, hj] using ha)
  · by_cases hk : k = i
    · subst hk
      have hm := sub a (by simpa [nfS] using h.mem.1)
      obtain ⟨z1, z2, z3⟩ := S.own k a (ow a hm)
      refine ⟨z1, fun j hj lv => ?_, z3⟩
      simpa [nfS, hj] using z2 j hj ((lv_set hj).mp lv)
    · have h' := (own_set hk).mp h
      obtain ⟨h1, h2, h3⟩ := S.own k a h'
      refine ⟨h1, fun j hj lv' => ?_, h3⟩
      by_cases hji : j = i
      · subst hji
        intro z
        exact h2 j hj lv (sub a (by simpa [nfS] using z))
      · simpa [nfS, hji] using h2 j hj ((lv_set hji).mp lv')
  · by_cases hk : k = i
    · subst hk
      have q2 : ns = a :: m := by simpa [nfS] using q2
      rw [q2] at nd
      exact (List.nodup_cons.mp nd).1
    · exact S.o1 k d'' o'' (get_set_ne hk q) ho es a m (by simpa [nfS, hk] using q2)
  · by_cases hk : k = i
    · subst hk
      simpa [nfS] using nd
    · simpa [nfS, hk] using S.o2 k d'' o'' (get_set_ne hk q) ho
  · obtain ⟨⟨ys, q⟩, n⟩ := S.hdL a ha
    refine ⟨⟨ys, ?_⟩, n⟩
    rw [upd_ne (show a ≠ b from fun z => nh (by rw [← z]; exact ha))]
    exact q
  · have : a = b := by simpa using z
    exact nh (this ▸ ha)
end

section
variable {c : Kx} {X : Cx} {Wx : WX} {T : Tab} {e e1 e2 e3 : Expr} {s : Stmt} {pos spos : Pos} {x x1 x2 x3 : Ex} {i j l : Nat}
theorem ixN_atI {α β : Type} {xs : List α} {ds : List β} {z : Int} {n : Nat} {v : α} (hl : xs.length = ds.length) (h : ixN ds.length z = some n) (hv : xs[n]? = some v) : atI xs z = some v := by
  unfold atI
  rw [hl, h]
  exact hv
theorem ss_sub2 {y : Str} {py ps ps2 : Pos} {ix jx : Expr} {xi xj : Ex} (hK : X.K = c.K) (hv : VarOk X i y) (hc : noComp e = true) (hs1 : noSlice ix = true) (hsl : noSlc jx = true) (he : SE c X Wx e (fvE x) (wE T x)) (hi : SE c X Wx ix (fvE xi) (wE T xi)) (hj : SE c X Wx jx (fvE xj) (wE T xj)) :
    SS c X Wx (.Assign [.Subscript (.Subscript (.Name y py) ix ps) jx ps2] e spos) (wS T (.sub2 i xi xj x)) := by
  obtain ⟨te, pe, hte⟩ := he
  obtain ⟨ti, pi, hti⟩ := hi
  obtain ⟨tj, pj, htj⟩ := hj
  refine ⟨_, ps_asg pe (pg_sub (pe_ix ix_list (pe_var (pos := py) hv.N hv.vis hv.db hv.cd) pi (noSlice_ix hs1)) pj set_list (ass_plain hsl)) (sole_no hc) (by rfl) (by rfl), fun Wo H0 A0 hd G nf ρ w σ H Pp E D hh S lp lx p => ?_⟩
  unfold wS at p
  refine SemE.go hte hh S lx p fun d fr w1 k v ns H1 r S1 => ?_
  obtain ⟨pd, k⟩ := k
  have V := Vl.of S r
  have en := V.pure_nil pd
  cases es : slot ρ i with
  | none => rw [es] at k; exact k.elim
  | some sl =>
    obtain ⟨dd, o⟩ := sl
    rw [es] at k
    have e' := slot_some es
    cases dd with
    | lst ds =>
      have o2 : o = 2 := by
        rcases o with _ | _ | _ | o
        · exact k.elim
        · exact k.elim
        · rfl
        · exact k.elim
      subst o2
      obtain ⟨q, xs, m, h1, h2, nW, en1, r1⟩ := S1.own_lst e'
      refine ⟨_, h1, SemE.go hti hh S1 lx k fun d2 f2 w2 k2 v2 n2 H2 r2 S2 => ?_⟩
      cases d2 with
      | int z =>
        obtain ⟨rfl, rfl⟩ := rp_int r2.rp
        have k2 : match ixN ds.length z with | some m => _ | none => False := k2
        cases hz : ixN ds.length z with
        | none => rw [hz] at k2; exact k2.elim
        | some mm =>
          rw [hz] at k2
          have k2 : match ds[mm]? with | some (.lst es) => _ | _ => False := k2
          cases hd : ds[mm]? with
          | none => rw [hd] at k2; exact k2.elim
          | some dr =>
            rw [hd] at k2
            cases dr with
            | lst es' =>
              obtain ⟨q', xs2, m2, g1, g2, _, en2, r2'⟩ := S2.own_lst e'
              rw [h1] at g1
              cases g1
              have nd2 := S2.o2 i _ _ e' (Nat.le_refl _)
              rw [en2] at nd2
              obtain ⟨nq, ndm⟩ := List.nodup_cons.mp nd2
              obtain ⟨b, ys, n1, pre, post, z1, z2, z3, z4, z5, z6⟩ := r2'.inner ndm hd
              refine ⟨q, xs2, z, .ref b, rfl, rfl, .inl (.inl g2), ixN_atI r2'.length hz z1, ?_⟩
              refine SemE.go htj hh S2 lx k2 fun d3 f3 w3 k3 v3 n3 H3 r3 S3 => ?_
              cases d3 with
              | int z' =>
                obtain ⟨rfl, rfl⟩ := rp_int r3.rp
                have k3 : match ixN es'.length z' with | some n => _ | none => False := k3
                cases hz' : ixN es'.length z' with
                | none => rw [hz'] at k3; exact k3.elim
                | some n =>
                  rw [hz'] at k3
                  obtain ⟨q', xs3, m3, g1, g3, _, en3, r3'⟩ := S3.own_lst e'
                  rw [h1] at g1
                  cases g1
                  rw [en2] at en3
                  injection en3 with _ en3
                  subst en3
                  -- the row still stands
                  have kq := r3.kp
                  have w0 := S2.wok.ls
                  have qW : q ∉ Ws Wo := fun z => nW (by simpa [Ws] using z)
                  have g3' := kq.keep q _ g2 qW
                  rw [g3] at g3'
                  cases g3'
                  obtain ⟨b', ys', n1', pre', post', y1, y2, y3, y4, y5, y6⟩ := r3'.inner ndm hd
                  rw [z1] at y1
                  cases y1
                  refine ⟨b, ys', z', n, rfl, rfl, y2, by rw [y4.length]; exact hz', ?_⟩
                  have rv : Rp c.toKn Wo H3 v d [] := by
                    have := V.rp
                    rw [en] at this
                    exact (this.kp r2.kp r.wok.ls).kp r3.kp r2.wok.ls
                  obtain ⟨m1, r1', hm1, nd1⟩ := y4.set (i := n) (v := v) (ixN_lt hz') rv
                  have hm1' : ∀ a ∈ m1, a ∈ n1' := fun a ha => by
                    rcases hm1 a ha with p | p
                    · exact p
                    · simp at p
                  rw [y5] at ndm nq
                  have nb : b ∉ n1' := by
                    have := (List.nodup_append.mp ndm).2.1
                    exact (List.nodup_cons.mp (List.nodup_append.mp this).1).1
                  have kb : Kp [b] H3 (upd H3 b (.lst (ys'.set n v))) := .wr y2
                  have lb : Ls H3 [b] := fun a ha => by
                    have : a = b := by simpa using ha
                    exact ⟨ys', by rw [this]; exact y2⟩
                  have rr := y6 (upd H3 b (.lst (ys'.set n v))) (ys'.set n v) (es'.set n d) m1 kb upd_same (r1'.keep _ kb lb fun a ha z => nb (by
                    have : a = b := by simpa using z
                    rw [← this]; exact hm1' a ha))
                  have hqb : q ≠ b := fun z => nq (by rw [z]; simp)
                  have rfull : Rp c.toKn Wo (upd H3 b (.lst (ys'.set n v))) (.ref q) (.lst (ds.set mm (.lst (es'.set n d)))) (q :: (pre' ++ ((b :: m1) ++ post'))) :=
                    .lst (by rw [upd_ne hqb]; exact g3) nW rr
                  refine lp.nx _ _ k3 _ _ _ (S3.wrIn hh e' h1 (b := b) (by rw [en2, y5]; simp) y2 rfull (fun a ha => ?_) ?_)
                  · rw [en2, y5]
                    rcases List.mem_cons.mp ha with p | p
                    · simp [p]
                    · rcases List.mem_append.mp p with p | p
                      · simp [p]
                      · rcases List.mem_append.mp p with p | p
                        · rcases List.mem_cons.mp p with p | p
                          · simp [p]
                          · simp [hm1' a p]
                        · simp [p]
                  · obtain ⟨p1, p2, p3⟩ := List.nodup_append.mp ndm
                    obtain ⟨p4, p5, p6⟩ := List.nodup_append.mp p2
                    obtain ⟨p7, p8⟩ := List.nodup_cons.mp p4
                    refine List.nodup_cons.mpr ⟨fun z => nq ?_, List.nodup_append.mpr ⟨p1, List.nodup_append.mpr ⟨List.nodup_cons.mpr ⟨fun z => p7 (hm1' b z), nd1 p8 List.nodup_nil fun a h => by simp at h⟩, p5, fun a ha a' ha' => ?_⟩, fun a ha a' ha' => ?_⟩⟩
                    · rcases List.mem_append.mp z with p | p
                      · simp [p]
                      · rcases List.mem_append.mp p with p | p
                        · rcases List.mem_cons.mp p with p | p
                          · simp [p]
                          · simp [hm1' q p]
                        · simp [p]
                    · rcases List.mem_cons.mp ha with p | p
                      · exact p6 a (by simp [p]) a' ha'
                      · exact p6 a (by simp [hm1' a p]) a' ha'
                    · refine p3 a ha a' ?_
                      rcases List.mem_append.mp ha' with p | p
                      · rcases List.mem_cons.mp p with p | p
                        · simp [p]
                        · simp [hm1' a' p]
                      · simp [p]
              | _ => exact k3.elim
            | _ => exact k2.elim
      | _ => exact k2.elim
    | _ => exact k.elim
end

/-! ### statements -/
def isLc : Ex → Bool
  | .lc _ _ _ _ _ => true
  | .lc2 _ _ _ _ _ _ _ _ => true
  | _ => false
def coKinds (scope : Scope) (y : Str) : Bool := scope.names.any fun (n, k) => n == y && (k == .local || k == .cell)
/-- several targets -/
def okTs (cc : CC) (fb : Str → Bool) (sc : Scope) : List Tt → List Expr → Bool
  | [], [] => true
  | .nm i :: ts, .Name y _ :: es => stoB cc fb sc i y && okTs cc fb sc ts es
  | .sb i ix :: ts, .Subscript (.Name y _) ix' _ :: es => varB cc sc i y && noSlc ix' && okE cc ix fb sc ix' && okTs cc fb sc ts es
  | _, _ => false
/-- is this suite that kind? -/
def okHk (cc : CC) (sc : Scope) (r : Hk) (nm : Option Str) (s0 : Stmt) (suite : List Stmt) : Bool := match r, nm, s0, suite with
  | .isS n i y h s1 s2, some m, .Return (some (.IfExp (.Call (.Name f _) [.Name m' _, .Name y' _] [] _) (.Constant (.str t1) _ _) (.Constant (.str t2) _ _) _)) _, [] =>
    decide (m = n) && decide (m' = n) && decide (cc.N[i]? = some n) && decide (sc.names.lookup n = some .local) && !(n == ("__debug__" : Str)) && !(n == ("__classdict__" : Str)) && decide (f = "isinstance") && isBl cc f && glB sc f && decide (y' = y) && glB sc y &&
      (decide (cc.es[h]? = some (y, true)) || decide (cc.es[h]? = some (y, false))) && decide (t1 = s1) && decide (t2 = s2) && cc.es.all (fun e => !e.2)
  | .tag n i f s, some m, .Return (some (.Tuple [.Constant (.str t) _ _, .Attribute (.Name m' _) f' _] _ _)) _, [] =>
    decide (m = n) && decide (m' = n) && decide (cc.N[i]? = some n) && decide (sc.names.lookup n = some .local) && !(n == ("__debug__" : Str)) && !(n == ("__classdict__" : Str)) && decide (t = s) && decide (f' = f)
  | .ret b, none, .Return (some (.Constant (.bool b') _ _)) _, [] => decide (b = b')
  | _, _, _, _ => false
mutual
def okS (cc : CC) : Sm → (Str → Bool) → Scope → Stmt → Bool
  | .set i x, fb, sc, s => match s with
    | .Assign [.Name y _] e _ => stoB cc fb sc i y && noComp e && okE cc x fb sc e
    | _ => false
  | .setc i x, fb, sc, s => match s with
    | .Assign [.Name y py] (.ListComp e gs scope lp) _ => stoB cc fb sc i y && okE cc x fb sc (.ListComp e gs scope lp) && isLc x
    | _ => false
  | .par i j a b, fb, sc, s => match s with
    | .Assign [.Tuple [.Name y1 p1, .Name y2 p2] _ _] (.Tuple [e1, e2] _ _) _ => decide (i ≠ j) && decide (cc.N[i]? = some y1) && decide (cc.N[j]? = some y2) && sw2 sc y1 y2 p1 p2 e1 e2 && okE cc a fb sc e1 && okE cc b fb sc e2
    | _ => false
  | .par3 i j l a b d, fb, sc, s => match s with
    | .Assign [.Tuple [.Name y1 p1, .Name y2 p2, .Name y3 p3] _ _] (.Tuple [e1, e2, e3] _ _) _ => decide (i ≠ j) && decide (i ≠ l) && decide (j ≠ l) && decide (cc.N[i]? = some y1) && decide (cc.N[j]? = some y2) && decide (cc.N[l]? = some y3) && sw3 sc y1 y2 y3 p1 p2 p3 e1 e2 e3 && okE cc a fb sc e1 && okE cc b fb sc e2 && okE cc d fb sc e3
    | _ => false
  | .tset ts x, fb, sc, s => match s with
    | .Assign [.Tuple tgs _ _] e _ => okTs cc fb sc ts tgs && noComp e && swN sc tgs e && okE cc x fb sc e
    | _ => false
  | .sub i xi x, fb, sc, s => match s with
    | .Assign [.Subscript (.Name y _) ix _] e _ => varB cc sc i y && noComp e && noSlc ix && okE cc x fb sc e && okE cc xi fb sc ix
    | _ => false
  | .sub2 i xi xj x, fb, sc, s => match s with
    | .Assign [.Subscript (.Subscript (.Name y _) ix _) jx _] e _ => varB cc sc i y && noComp e && noSlice ix && noSlc jx && okE cc x fb sc e && okE cc xi fb sc ix && okE cc xj fb sc jx
    | _ => false
  | .asb i neg xi x, fb, sc, s => match s with
    | .AugAssign (.Subscript (.Name y _) ix _) op e _ => decide (op = augOp neg) && varB cc sc i y && noSlc ix && okE cc x fb sc e && okE cc xi fb sc ix
    | _ => false
  | .aug i neg x, fb, sc, s => match s with
    | .AugAssign (.Name y _) op e _ => decide (op = augOp neg) && stoB cc fb sc i y && okE cc x fb sc e
    | _ => false
  | .app i x, fb, sc, s => match s with
    | .Expr (.Call (.Attribute (.Name y _) a ap) [e] [] cp) _ => decide (a = "append") && (ap.endLine == cp.line) && varB cc sc i y && noStar e && okE cc x fb sc e
    | _ => false
  | .appm i j, fb, sc, s => match s with
    | .Expr (.Call (.Attribute (.Name y _) a ap) [.Name z _] [] cp) _ => decide (a = "append") && (ap.endLine == cp.line) && varB cc sc i y && varB cc sc j z
    | _ => false
  | .pop j i x, fb, sc, s => match s with
    | .Assign [.Name z _] (.Call (.Attribute (.Name y _) a ap) [e] [] cp) _ => decide (a = "pop") && (ap.endLine == cp.line) && stoB cc fb sc j z && varB cc sc i y && noStar e && okE cc x fb sc e
    | _ => false
  | .expr x, fb, sc, s => match s with
    | .Expr e _ => noComp e && okE cc x fb sc e
    | _ => false
  | .ret x, fb, sc, s => match s with
    | .Return (some e) _ => okE cc x fb sc e
    | _ => false
  | .retv i, fb, sc, s => match s with
    | .Return (some (.Name y _)) _ => varB cc sc i y
    | _ => false
  | .retN, fb, sc, s => match s with
    | .Return none _ => true
    | _ => false
  | .iff c a b, fb, sc, s => match s with
    | .If e sa sb _ => tsX c && okE cc c fb sc e && okSs cc a fb sc sa && okSs cc b fb sc sb
    | _ => false
  | .forr t i b, fb, sc, s => match s with
    | .For tg it ss [] _ => okTg cc fb sc t tg && decide (tgl t).Nodup && okI cc i fb sc tg it && noSet it && okSs cc b fb sc ss
    | _ => false
  | .whl c b, fb, sc, s => match s with
    | .While e ss [] _ => tsX c && okE cc c fb sc e && okSs cc b fb sc ss
    | _ => false
  | .rse x g es, fb, sc, s => match es, s with
    | .nil, .Raise (some (.Call (.Name y _) [] [] _)) none _ => decide (y = x) && decide (cc.es[g]? = some (y, false)) && glB sc y
    | .cons a .nil, .Raise (some (.Call (.Name y _) [e] [] _)) none _ => decide (y = x) && decide (cc.es[g]? = some (y, true)) && glB sc y && noStar e && okE cc a fb sc e
    | _, _ => false
  | .ins i xi x, fb, sc, s => match s with
    | .Expr (.Call (.Attribute (.Name y _) a ap) [e1, e2] [] cp) _ => decide (a = "insert") && (ap.endLine == cp.line) && varB cc sc i y && noStar e1 && noStar e2 && okE cc xi fb sc e1 && okE cc x fb sc e2
    | _ => false
  | .tryx b x h r, fb, sc, s => match s with
    | .Try body [.ExceptHandler (some (.Name y _)) nm (s0 :: suite) _] [] [] _ => decide (y = x) && (decide (cc.es[h]? = some (y, true)) || decide (cc.es[h]? = some (y, false))) && glB sc y && okHk cc sc r nm s0 suite && okSs cc b fb sc body
    | _ => false
  | .pas, fb, sc, s => match s with
    | .Pass _ => true
    | .Expr (.Constant (.str _) _ _) _ => true
    | _ => false
  | .brk, fb, sc, s => match s with
    | .Break _ => true
    | _ => false
  | .cnt, fb, sc, s => match s with
    | .Continue _ => true
    | _ => false
  | .never, fb, sc, s => true
def okSs (cc : CC) : Sms → (Str → Bool) → Scope → List Stmt → Bool
  | .nil, _, _, ss => ss.isEmpty
  | .cons x xs, fb, sc, ss => match ss with
    | s :: ss => okS cc x fb sc s && okSs cc xs fb sc ss
    | [] => false
end
section
variable {cc : CC} {c : Kx} {T : Tab} {k : Nat} {X : Cx} {Wx : WX} {fb : Str → Bool} {sc : Scope}
theorem okTs_ok (o : XOk cc c T k X Wx) (hs : X.env.scope = sc) (hf : X.fn = fb) : ∀ {ts : List Tt} {es : List Expr}, okTs cc fb sc ts es = true → STs c X Wx T es ts
  | [], [], _ => sts_nil
  | .nm i :: ts, e :: es, h => by
    cases e <;> simp only [okTs, Bool.and_eq_true] at h <;> try (exact absurd h Bool.false_ne_true)
    obtain ⟨h1, h2, h3⟩ := stoB_ok o hs hf h.1
    exact sts_nm (by rw [o.N]; exact o.nd) h1 h2 h3 (okTs_ok o hs hf h.2)
  | .sb i ix :: ts, e :: es, h => by
    unfold okTs at h
    split at h
    · cases ‹_ :: _ = []›
    · rename_i q _
      cases q
    · rename_i q q2
      cases q; cases q2
      simp only [Bool.and_eq_true] at h
      obtain ⟨⟨⟨h1, h2⟩, h3⟩, h4⟩ := h
      exact sts_sb (varB_ok o hs h1) h2 (ok_e ix o hs hf h3).1 (okTs_ok o hs hf h4)
    · cases h
  | [], _ :: _, h => by simp [okTs] at h
  | .nm _ :: _, [], h => by simp [okTs] at h
  | .sb _ _ :: _, [], h => by simp [okTs] at h
end
end Ev

set_option Elab.async false
set_option linter.all false
set_option maxRecDepth 100000
set_option maxHeartbeats 8000000
/-! # EvYa: insert, raise, try -/
namespace Ev
open PySem PySem.Spec PyProof.Rows L2

section
variable {c : Kx} {Wo : Option Addr} {H0 H H' H1 H2 : Hp} {A0 hd : List Addr} {G : Hp → Prop} {nf : Nat → List Addr} {ρ ρ1 : Slots} {w w' w1 w2 : Wl} {σ : L2.St} {v u : V} {d y : D} {fr fy o : Nat} {ns n2 : List Addr} {fv fv2 : List Nat} {i j : Nat} {a : Addr}
theorem RpA.split {c : Kn} {W : Option Addr} {H : Hp} : ∀ {ds : List D} {vs : List V} {ns : List Addr} (k : Nat), RpA c W H vs ds ns → ∃ n1 n2, ns = n1 ++ n2 ∧ RpA c W H (vs.take k) (ds.take k) n1 ∧ RpA c W H (vs.drop k) (ds.drop k) n2
  | [], _, _, k, h => by cases h; exact ⟨[], [], rfl, by simpa using RpA.nil, by simpa using RpA.nil⟩
  | d :: ds, _, ns, 0, h => ⟨[], ns, rfl, by simpa using RpA.nil, h⟩
  | d :: ds, _, _, k + 1, h => by
    cases h with
    | @cons _ _ _ _ m1 m2 r1 r2 =>
      obtain ⟨n1, n2, e, h1, h2⟩ := RpA.split k r2
      exact ⟨m1 ++ n1, n2, by rw [e, List.append_assoc], by simpa using RpA.cons r1 h1, by simpa using h2⟩
/-- a value put into the list at slot i, wherever -/
theorem ins_ok (S : Sim c Wo H0 A0 hd G nf ρ w σ H) (hh : Held hd G) (V : Vl c Wo H0 A0 hd nf ρ fv H v d fr ns) {ds : List D} {n : Nat} {k : Slots → Prop} (e : ρ[i]? = some (some (.lst ds, o))) (ho : 1 ≤ o) (h : putIn fv i (ds.take n ++ [d] ++ ds.drop n) o d fr ρ k) :
    ∃ a xs, σ[i]? = some (some (.ref a)) ∧ H a = some (.lst xs) ∧ xs.length = ds.length ∧ ∃ nf' ρ', Sim c Wo H0 A0 hd G nf' ρ' w σ (upd H a (.lst (xs.take n ++ [v] ++ xs.drop n))) ∧ k ρ' := by
  obtain ⟨a, xs, m, h1, h2, nW, en, r⟩ := S.own_lst e
  have ow : Own ρ nf i a := ⟨_, o, e, .inl ⟨ho, ⟨ds, rfl⟩, m, en⟩⟩
  have lv : Lv ρ i := ⟨_, _, e⟩
  have na0 : a ∉ m := S.o1 i _ _ e ho ⟨ds, rfl⟩ a m en
  have mm : ∀ b ∈ m, b ∈ nf i := fun b hb => by rw [en]; simp [hb]
  obtain ⟨m1, m2, em, ra, rb⟩ := r.split n
  have r1 := (ra.append (RpA.one V.rp)).append rb
  have split : ∀ {b}, b ∈ m1 ++ ns ++ m2 → b ∈ m ∨ b ∈ ns := fun {b} hb => by
    rw [em]
    simp only [List.mem_append] at hb ⊢
    rcases hb with (q | q) | q
    · exact .inl (.inl q)
    · exact .inr q
    · exact .inl (.inr q)
  refine ⟨a, xs, h1, h2, r.length, ?_⟩
  unfold putIn at h
  by_cases pf : d.pure = true ∨ fr = 2
  · rw [if_pos pf] at h
    have nwn : ∀ b ∈ ns, Nw H0 hd nf ρ b := fun b q => by
      rcases pf with p | p
      · rw [V.pure_nil p] at q; simp at q
      · exact (V.f2 (by omega)).2 b q
    refine ⟨_, _, S.wr hh (o' := o) e h1 h2 en ho r1 (fun q => ?_) (fun b hb => ?_) (fun b hb k hk owk => ?_) (fun h2o => ?_), h⟩
    · rcases split q with q | q
      · exact na0 q
      · exact (nwn a q).2.1 i lv ow.mem.1
    · rcases split hb with q | q
      · exact S.org i lv b (mm b q)
      · exact V.org b q
    · rcases split hb with q | q
      · exact (S.own k b owk).2.1 i (Ne.symm hk) lv (mm b q)
      · exact (nwn b q).2.1 k owk.mem.2 owk.mem.1
    · have ndi := S.o2 i _ _ e h2o
      rw [en] at ndi
      obtain ⟨_, ndm⟩ := List.nodup_cons.mp ndi
      have ndn : ns.Nodup := by
        rcases pf with p | p
        · rw [V.pure_nil p]; exact List.nodup_nil
        · exact (V.f2 (by omega)).1
      have dis : ∀ b ∈ ns, b ∉ m := fun b hb q => (nwn b hb).2.1 i lv (mm b q)
      refine ⟨?_, fun b hb => ?_⟩
      · rw [em, List.nodup_append] at ndm
        obtain ⟨d1, d2, d3⟩ := ndm
        rw [em] at dis
        rw [List.nodup_append, List.nodup_append]
        refine ⟨⟨d1, ndn, fun x hx z hz q => dis z hz (by simp [← q, hx])⟩, d2, fun x hx z hz q => ?_⟩
        rcases List.mem_append.mp hx with hx | hx
        · exact d3 x hx z hz q
        · exact dis x hx (by simp [q, hz])
      · rcases split hb with q | q
        · exact S.own i b ⟨_, o, e, .inr ⟨h2o, mm b q⟩⟩
        · obtain ⟨z1, z2, z3⟩ := nwn b q
          exact ⟨z1, fun j _ lv => z2 j lv, z3⟩
  · rw [if_neg pf] at h
    obtain ⟨ni, h⟩ := h
    have hl := (@dg_low fv ρ)
    have Sd := S.low hl.1
    have e' : (dg fv ρ)[i]? = some (some (.lst ds, o)) := by rw [dg_get fv ρ ni]; exact e
    refine ⟨_, _, Sd.wr hh (o' := min o 1) e' h1 h2 en ho r1 (fun q => ?_) (fun b hb => ?_) (fun b hb k hk owk => ?_) (fun q => by omega), h⟩
    · rcases split q with q | q
      · exact na0 q
      · exact V.sep a q i ni ow
    · rcases split hb with q | q
      · exact S.org i lv b (mm b q)
      · exact V.org b q
    · obtain ⟨z1, z2⟩ := S.dgd owk
      rcases split hb with q | q
      · exact (S.own k b z2).2.1 i (Ne.symm hk) lv (mm b q)
      · exact V.sep b q k z1 z2
/-- an item taken out of the list at slot i, put into slot j -/
theorem pop_ok (S : Sim c Wo H0 A0 hd G nf ρ w σ H) (hh : Held hd G) {ds : List D} {n : Nat} (e : ρ[i]? = some (some (.lst ds, o))) (ho : 1 ≤ o) (hx : ds[n]? = some d) :
    ∃ a xs v, σ[i]? = some (some (.ref a)) ∧ H a = some (.lst xs) ∧ xs.length = ds.length ∧ xs[n]? = some v ∧
      ∃ nf', Sim c Wo H0 A0 hd G nf' ((ρ.set i (some (.lst (ds.eraseIdx n), o))).set j (some (d, if d.pure = true then 2 else if o = 2 then 2 else 0))) w (σ.set j (some v)) (upd H a (.lst (xs.eraseIdx n))) := by
  obtain ⟨a, xs, m, h1, h2, nW, en, r⟩ := S.own_lst e
  have ow : Own ρ nf i a := ⟨_, o, e, .inl ⟨ho, ⟨ds, rfl⟩, m, en⟩⟩
  have lv : Lv ρ i := ⟨_, _, e⟩
  have na0 : a ∉ m := S.o1 i _ _ e ho ⟨ds, rfl⟩ a m en
  have mm : ∀ b ∈ m, b ∈ nf i := fun b hb => by rw [en]; simp [hb]
  have hl := r.length
  have hn : n < ds.length := (List.getElem?_eq_some_iff.mp hx).1
  have hn2 : n < xs.length := by omega
  obtain ⟨m1, m2', em, ra, rb⟩ := r.split n
  have ed : ds.drop n = d :: ds.drop (n + 1) := by
    rw [List.drop_eq_getElem_cons hn, (List.getElem?_eq_some_iff.mp hx).2]
  have ex : xs.drop n = xs[n] :: xs.drop (n + 1) := List.drop_eq_getElem_cons hn2
  rw [ed, ex] at rb
  cases rb with
  | @cons _ _ _ _ nd m2 rd rr =>
    have r1 := ra.append rr
    rw [← List.eraseIdx_eq_take_drop_succ, ← List.eraseIdx_eq_take_drop_succ] at r1
    have inm : ∀ {b}, b ∈ m1 ++ m2 → b ∈ m := fun {b} hb => by
      rw [em]
      simp only [List.mem_append] at hb ⊢
      exact hb.imp id .inr
    have ind : ∀ {b}, b ∈ nd → b ∈ m := fun {b} hb => by
      rw [em]
      simp [hb]
    have two : o = 2 → ∀ {b}, b ∈ m → H0 b = none ∧ (∀ j, j ≠ i → Lv ρ j → b ∉ nf j) ∧ b ∉ hd := fun h {b} hb => S.own i b ⟨_, o, e, .inr ⟨by omega, mm b hb⟩⟩
    have ndm : 2 ≤ o → m.Nodup := fun h => by
      have := S.o2 i _ _ e h
      rw [en] at this
      exact (List.nodup_cons.mp this).2
    have o2 : o ≤ 2 ∨ 2 < o := by omega
    have S1 := S.wr hh (o' := o) e h1 h2 en ho r1 (fun q => na0 (inm q)) (fun b hb => S.org i lv b (mm b (inm hb))) (fun b hb k hk owk => (S.own k b owk).2.1 i (Ne.symm hk) lv (mm b (inm hb)))
      (fun h => by
        have z := ndm h
        rw [em, List.nodup_append, List.nodup_append] at z
        refine ⟨List.nodup_append.mpr ⟨z.1, z.2.1.2.1, fun x hx y hy => z.2.2 x hx y (by simp [hy])⟩, fun b hb => S.own i b ⟨_, o, e, .inr ⟨h, mm b (inm hb)⟩⟩⟩)
    have rv : Rp c.toKn Wo (upd H a (.lst (xs.eraseIdx n))) xs[n] d nd := rd.keep d (.wr h2) (fun b hb => by
      have : b = a := by simpa using hb
      exact ⟨xs, by rw [this]; exact h2⟩) fun b hb q => by
        have : b = a := by simpa using q
        exact na0 (this ▸ ind hb)
    have dis : 2 ≤ o → ∀ b ∈ nd, b ∉ a :: (m1 ++ m2) := fun h b hb q => by
      rcases List.mem_cons.mp q with z | z
      · exact na0 (z ▸ ind hb)
      · have nn := ndm h
        rw [em, List.nodup_append, List.nodup_append] at nn
        rcases List.mem_append.mp z with z | z
        · exact nn.2.2 b z b (by simp [hb]) rfl
        · exact nn.2.1.2.2 b hb b z rfl
    have fresh : 2 ≤ o → ∀ b ∈ nd, H0 b = none ∧ (∀ k, k ≠ j → Lv (ρ.set i (some (.lst (ds.eraseIdx n), o))) k → b ∉ nfS nf i (a :: (m1 ++ m2)) k) ∧ b ∉ hd := fun h b hb => by
      obtain ⟨z1, z2, z3⟩ := S.own i b ⟨_, o, e, .inr ⟨h, mm b (ind hb)⟩⟩
      refine ⟨z1, fun k _ lvk => ?_, z3⟩
      by_cases hk : k = i
      · subst hk
        simpa [nfS] using dis h b hb
      · simpa [nfS, hk] using z2 k hk ((lv_set hk).mp lvk)
    refine ⟨a, xs, xs[n], h1, h2, hl, List.getElem?_eq_getElem hn2, _, S1.put j _ rv (fun b hb => S.org i lv b (mm b (ind hb))) (fun b hb k hk owk => ?_) (fun hp es ee b0 m0 en0 => ?_) (fun hp => ?_)⟩
    · by_cases hki : k = i
      · subst hki
        obtain ⟨d', o', e', h'⟩ := owk
        have e' := get_set_eq e'
        cases e'
        rcases h' with ⟨_, _, m', q⟩ | ⟨q1, q2⟩
        · have : b = a := by
            have : a :: (m1 ++ m2) = b :: m' := by simpa [nfS] using q
            exact (List.cons.inj this).1.symm
          exact na0 (this ▸ ind hb)
        · exact dis q1 b hb (by simpa [nfS] using q2)
      · exact (S.own k b ((own_set hki).mp owk)).2.1 i (Ne.symm hki) lv (mm b (ind hb))
    · have np : ¬ d.pure = true := fun z => by rw [ee] at z; cases z
      rw [if_neg np] at hp
      have h2 : 2 ≤ o := by
        by_cases z : o = 2
        · omega
        · rw [if_neg z] at hp; omega
      have nn := ndm h2
      rw [em, List.nodup_append, List.nodup_append] at nn
      have n1 := nn.2.1.1
      rw [en0] at n1
      exact ⟨fresh h2 b0 (by rw [en0]; simp), (List.nodup_cons.mp n1).1⟩
    · by_cases p : d.pure = true
      · rw [rd.pure_nil d p]
        exact ⟨List.nodup_nil, fun b hb => by cases hb⟩
      · rw [if_neg p] at hp
        have h2 : 2 ≤ o := by
          by_cases z : o = 2
          · omega
          · rw [if_neg z] at hp; omega
        have nn := ndm h2
        rw [em, List.nodup_append, List.nodup_append] at nn
        exact ⟨nn.2.1.1, fun b hb => fresh h2 b hb⟩
end

section
variable {c : Kx} {X : Cx} {Wx : WX} {T : Tab} {e e1 e2 e3 : Expr} {s : Stmt} {ss ss2 : List Stmt} {pos spos : Pos} {x x1 x2 x3 : Ex} {i j l : Nat} {ys zs : Sms} {cc : CC} {k : Nat} {fb : Str → Bool} {sc : Scope}
theorem seq_ix {n : Nat} {z : Int} {k : Nat} (h : ixN n z = some k) : seqIndex? z n = some k := by
  unfold ixN at h
  split at h
  · rename_i h0
    split at h
    · rename_i h1
      cases h
      exact seqIndex_of h0 h1
    · cases h
  · rename_i h0
    split at h
    · rename_i h1
      cases h
      have := seqIndex_neg (by omega) h1
      exact this
    · cases h
/-- y.insert(e1, e2) -/
theorem ss_ins {y : Str} {py ap cp : Pos} (hK : X.K = c.K) (hv : VarOk X i y) (hs : noStar e1 = true) (hs2 : noStar e2 = true) (hl : (ap.endLine == cp.line) = true) (h1 : SE c X Wx e1 (fvE x1) (wE T x1)) (h2 : SE c X Wx e2 (fvE x2) (wE T x2)) :
    SS c X Wx (.Expr (.Call (.Attribute (.Name y py) "insert" ap) [e1, e2] [] cp) pos) (wS T (.ins i x1 x2)) := by
  obtain ⟨t1, p1, g1⟩ := h1
  obtain ⟨t2, p2, g2⟩ := h2
  refine ⟨_, ps_expr (pe_bm PySem.F.plainAttrs_list PySem.F.slot_list_insert PySem.F.type_list_insert mt_insert (pe_var (pos := py) hv.N hv.vis hv.db hv.cd) (pa_cons p1 (pa_cons p2 pa_nil (star_cons hs2)) (star_cons hs)) (by rfl) (by rw [star_cons hs, star_cons hs2]; rfl) hl (star_cons hs) (by rw [star_cons hs2]; rfl)) (by rfl), fun Wo H0 A0 hd G nf ρ w σ H Pp E D hh S lp lx p => ?_⟩
  unfold wS at p
  cases es : slot ρ i with
  | none => rw [es] at p; exact p.elim
  | some sl =>
    obtain ⟨dd, o⟩ := sl
    rw [es] at p
    have e' := slot_some es
    cases dd with
    | lst ds =>
      obtain ⟨ho, p⟩ := p
      obtain ⟨q, xs, m, z1, z2, nW, en, r⟩ := S.own_lst e'
      refine ⟨_, z1, .inl ⟨rfl, xs, .inl (.inl z2)⟩, SemE.go g1 hh S lx p fun d1 f1 w2 k1 v1 n1 H2 r2 S2 => ?_⟩
      obtain ⟨jj, rfl, k1⟩ := asI_cases k1
      have rv := r2.rp
      cases rv
      refine SemE.go g2 hh S2 lx k1 fun d fr w3 k2 v n2 H3 r3 S3 => ?_
      obtain ⟨hlen, j0, j1, k2⟩ := k2
      obtain ⟨a, xs2, y1, y2, y3, nf', ρ', S', k'⟩ := ins_ok S3 hh (Vl.of S2 r3) e' ho k2
      rw [z1] at y1
      cases y1
      exact ⟨q, xs2, jj, v, rfl, rfl, y2, by rw [y3]; exact Nat.lt_of_lt_of_le hlen (by decide), j0, by omega, lp.nx _ _ k' _ _ _ S'⟩
    | _ => exact p.elim

/-- z = y.pop(e) -/
theorem ss_pop {y z : Str} {py pz ap cp : Pos} (hN : X.N.Nodup) (hz1 : X.N[j]? = some z) (hz2 : Loc X.env.scope z) (hz3 : X.fn z = true ∨ X.env.scope.names.lookup z = some .local) (hv : VarOk X i y) (hs : noStar e = true) (hl : (ap.endLine == cp.line) = true) (h1 : SE c X Wx e (fvE x) (wE T x)) :
    SS c X Wx (.Assign [.Name z pz] (.Call (.Attribute (.Name y py) "pop" ap) [e] [] cp) pos) (wS T (.pop j i x)) := by
  obtain ⟨t1, p1, g1⟩ := h1
  refine ⟨_, ps_set hN hz1 hz2 (pe_bm PySem.F.plainAttrs_list PySem.F.slot_list_pop PySem.F.type_list_pop mt_popAt (pe_var (pos := py) hv.N hv.vis hv.db hv.cd) (pa_cons p1 pa_nil (star_cons hs)) (by rfl) (by rw [star_cons hs]; rfl) hl (star_cons hs) (by rfl)) (by rfl) hz3, fun Wo H0 A0 hd G nf ρ w σ H Pp E D hh S lp lx p => ?_⟩
  unfold wS at p
  cases es : slot ρ i with
  | none => rw [es] at p; exact p.elim
  | some sl =>
    obtain ⟨dd, o⟩ := sl
    rw [es] at p
    have e' := slot_some es
    cases dd with
    | lst ds =>
      obtain ⟨ho, hij, p⟩ := p
      obtain ⟨q, xs, m, z1, z2, nW, en, r⟩ := S.own_lst e'
      refine ⟨_, z1, .inl ⟨rfl, xs, .inl (.inl z2)⟩, SemE.go g1 hh S lx p fun d1 f1 w2 k1 v1 n1 H2 r2 S2 => ?_⟩
      obtain ⟨jj, rfl, b1, b2, k1⟩ := asI_cases k1
      have rv := r2.rp
      cases rv
      cases en2 : ixN ds.length jj with
      | none => rw [en2] at k1; exact k1.elim
      | some n =>
        rw [en2] at k1
        cases ed : ds[n]? with
        | none => simp only [ed] at k1
        | some d =>
          simp only [ed] at k1
          obtain ⟨a, xs2, v, y1, y2, y3, y4, nf', S'⟩ := pop_ok (j := j) S2 hh e' ho ed
          rw [z1] at y1
          cases y1
          exact ⟨q, xs2, jj, n, v, rfl, rfl, y2, by omega, by omega, by rw [y3]; exact seq_ix en2, y4, lp.nx _ _ k1 _ _ _ S'⟩
    | _ => exact p.elim

/-! ### raise -/
/-- C(), C an error without __init__ -/
theorem pmk_bare {x : Str} {C : Addr} {p : Pos} {bm : List Value} {B nw ini : String} (F : ExcBaseFacts B nw ini bm) (hq : PySem.W.excIn X.K C bm nw = true) (hm : X.mg x = some (.ref C)) (hk : PySem.W.keepIn X.K (.ref C) = true) (hr : Raises X (.ref C)) (hg : Gl X x)
    (hdb : (x == ("__debug__" : Str)) = false) : PMk X (.Call (.Name x p) [] [] pos) (fun _ H Q => Q (.ref C) none H) := by
  intro pins s σ H Q J h
  refine wpAny_Call_Name_kw (ld_glob J hg hm ?_ hdb)
  refine PySem.W.callWith_K0 J.kIn hk ?_
  obtain ⟨bms, N', a1, a2, a3, a4, a5, a6, a7, a8, a9, b0, b1, b2, b3, b4, b5, hC, hN, hni, T'⟩ := exc_obj J.kIn hq
  exact wpAny_call_exc_subT F T' hC hN hni (fun h' e' made => mk_of J made hr h (J.hok.gone made.new)) (Nat.zero_le _)
theorem ss_rse0 {x : Str} {g : Nat} {p cp : Pos} (hc : X.calm = true) (tk : Takes X Wx) (F : HasEr c X x g false) (hg : Gl X x) : SS c X Wx (.Raise (some (.Call (.Name x p) [] [] cp)) none pos) (wS T (.rse x g .nil)) := by
  obtain ⟨bm, B, nw, ini, f1, f2, f3, f4⟩ := F.bare rfl
  refine ⟨_, ps_raise hc tk (pmk_bare f1 f2 F.mg f3 f4 hg F.db), fun Wo H0 A0 hd G nf ρ w σ H Pp E D hh S lp lx p => ?_⟩
  unfold wS wEs at p
  exact lx g none w p none σ H S.kp S.wok rfl
theorem ss_rse1 {x : Str} {g : Nat} {p cp : Pos} {x1 : Ex} (hK : X.K = c.K) (hc : X.calm = true) (hr : Room 2 X.A) (tk : Takes X Wx) (F : HasEr c X x g true) (hg : Gl X x) (hs : noStar e = true) (h : SE c X Wx e (fvE x1) (wE T x1)) :
    SS c X Wx (.Raise (some (.Call (.Name x p) [e] [] cp)) none pos) (wS T (.rse x g (.cons x1 .nil))) := by
  obtain ⟨t, pt, ht⟩ := h
  obtain ⟨O, fI, fd, ps, i1, i2, i3, i4⟩ := F.one rfl
  refine ⟨_, ps_raise hc tk (pmk_oex O i1 i2 i3 hr i4 .nil pass0 hg F.mg (pa_cons pt pa_nil (star_cons hs)) F.db (star_cons hs) (by rfl)), fun Wo H0 A0 hd G nf ρ w σ H Pp E D hh S lp lx p => ?_⟩
  unfold wS wEs wEs at p
  refine SemE.go ht hh S lx p fun d fr w' k v ns H' r S' => ?_
  refine ⟨by show 1 ≤ 1000; decide, fun a na => ⟨a, v, by simp, upd_same, fun dx nd ne => ?_⟩⟩
  have ndx : H' dx = none := by
    rw [upd_ne ne] at nd
    exact nd
  refine ⟨rfl, dx, _, upd_same, by rw [upd_ne ne, upd_same], ndx, ?_⟩
  have fin : ∀ b, b ≠ dx → upd (del (upd (upd (upd H' a (exo a (c.ca g) none)) dx (exd dx [(c.fld g, v)])) a (exo a (c.ca g) (some dx))) a) dx (.xd [(c.fld g, v)]) b = if b = a then none else H' b := fun b hb => by
    rw [upd_ne hb]
    unfold del
    by_cases e : b = a
    · rw [if_pos e, if_pos e]
    · rw [if_neg e, if_neg e, upd_ne e, upd_ne hb, upd_ne e]
  generalize hF : upd (del (upd (upd (upd H' a (exo a (c.ca g) none)) dx (exd dx [(c.fld g, v)])) a (exo a (c.ca g) (some dx))) a) dx (.xd [(c.fld g, v)]) = HF at fin
  have atdx : HF dx = some (.xd [(c.fld g, v)]) := by rw [← hF]; exact upd_same
  have kk : Kp [] H' HF := by
    refine ⟨fun b o e _ => ?_, fun b e => ?_⟩
    · have h1 : b ≠ dx := fun z => by rw [z, ndx] at e; cases e
      have h2 : b ≠ a := fun z => by rw [z, na] at e; cases e
      rw [fin b h1, if_neg h2]
      exact e
    · have h1 : b ≠ dx := fun z => by rw [z, atdx] at e; cases e
      rw [fin b h1] at e
      by_cases h2 : b = a
      · rw [h2]; exact na
      · rw [if_neg h2] at e; exact e
  have kw : Kp (Ws Wo) H' HF := kk.mono fun a h => by cases h
  refine lx g (some d) w' k (some dx) σ HF (S'.kp.trans kw) (fun b hb => ?_) ⟨dx, v, ns, rfl, atdx, r.rp.kp kw r.wok.ls, fun b hb => ?_⟩
  · obtain ⟨xs, q1, q2, q3⟩ := r.wok b hb
    exact ⟨xs, kk.keep _ _ q1 (fun h => by cases h), RpA.keep w' q2 kk Ls.nil (fun _ h => by cases h), q3⟩
  · rcases r.org b hb with z | ⟨i, _, lv, hi⟩
    · exact .inl (S.kp.dom b z)
    · exact S.org i lv b hi

/-! ### try -/
theorem XOk.tr (o : XOk cc c T k X Wx) {W : WX} {pn : List (Addr × Obj)} {xe : Value → Shared → Prop} (tk : Takes (X.tr pn xe) W) (po : PassesOwn (model X.prog X.w) X.A X.env xe) : XOk cc c T k (X.tr pn xe) W :=
  { K := o.K, N := o.N, nd := o.nd, calm := o.calm, room := o.room, gd := o.gd, po := po, tk := tk,
    fn := fun g x h => let F := o.fn g x h; { ex := F.ex, kp := F.kp, mg := F.mg, db := F.db }, kw := fun m x ks h => let F := o.kw m x ks h; { ex := F.ex, db := F.db },
    cv := fun g h => let F := o.cv g h; { ex := F.ex, kp := F.kp }, cst := o.cst, bl := o.bl, gcd := o.gcd,
    er := fun g x b h => let F := o.er g x b h; { mg := F.mg, db := F.db, isa := F.isa, xf := F.xf, bare := F.bare, one := F.one }, exm := o.exm, fl := o.fl, rm := o.rm, kit := o.kit, eb := o.eb }
theorem uniT {W : WX} {body : List Stmt} {P : Slots → Wl → Po → XQ → Prop} (h : ∀ (pn : List (Addr × Obj)) (xe : Value → Shared → Prop), Takes (X.tr pn xe) W → PassesOwn (model X.prog X.w) X.A X.env xe → SSs c (X.tr pn xe) W body P) :
    ∃ t : TS, (∀ (pn : List (Addr × Obj)) (xe : Value → Shared → Prop), Takes (X.tr pn xe) W → PassesOwn (model X.prog X.w) X.A X.env xe → PSs (X.tr pn xe) body t) ∧ SemS c W t P := by
  refine ⟨fun D σ H => ∀ pn xe (h1 : Takes (X.tr pn xe) W) (h2 : PassesOwn (model X.prog X.w) X.A X.env xe), Classical.choose (h pn xe h1 h2) D σ H, fun pn xe h1 h2 => ⟨fun pins s σ H D J q => ?_⟩, fun Wo H0 A0 hd G nf ρ w σ H Pp E D hh S lp lx p pn xe h1 h2 => ?_⟩
  · exact (Classical.choose_spec (h pn xe h1 h2)).1.run pins s σ H D J (q pn xe h1 h2)
  · exact (Classical.choose_spec (h pn xe h1 h2)).2 Wo H0 A0 hd G nf ρ w σ H Pp E D hh S lp lx p
/-- try: .. except C: return True -/
theorem ss_try_ret {body : List Stmt} {np hp rp : Pos} {y : Str} {h : Nat} {b bb : Bool} {jj} {p' : Pos} {zs : Sms} (o : XOk cc c T k X Wx) (hst : X.stack = X.env :: X.outer) (hfr : X.env.frame = some X.env.locals) (hy : cc.es[h]? = some (y, bb)) (hg : Gl X y)
    (hb : ∀ (W : WX) (pn : List (Addr × Obj)) (xe : Value → Shared → Prop), Takes (X.tr pn xe) W → PassesOwn (model X.prog X.w) X.A X.env xe → SSs c (X.tr pn xe) W body (wSs T zs)) :
    SS c X Wx (.Try body [.ExceptHandler (some (.Name y np)) none [.Return (some (.Constant (.bool b) jj p')) rp] hp] [] [] pos) (wS T (.tryx zs y h (.ret b))) := by
  have F := o.er h y bb hy
  refine ⟨_, ps_try_only (tb := fun W => Classical.choose (uniT (hb W))) (ts := fun _ _ _ => tRet (tC (.bl b))) (c := .ref (c.ca h)) hst hfr ⟨hg, F.db, .inl F.mg⟩ o.tk (fun W pn xe h1 h2 => (Classical.choose_spec (uniT (hb W))).1 pn xe h1 h2)
    (fun a oe cls d pn hz hf => pss_one (ps_ret pe_bl)), fun Wo H0 A0 hd G nf ρ w σ H Pp E D hh S lp lx p => ?_⟩
  unfold wS at p
  refine (Classical.choose_spec (uniT (hb _))).2 Wo H0 A0 hd G nf ρ w σ H Pp _ D hh S lp ?_ p
  rintro g od w' ⟨eg, q⟩ dx σ' H' kp wok ex
  refine ⟨T.sub g h, by have := o.exm g h y bb eg hy; exact this, fun e a na => ?_, fun e => ?_⟩
  · rw [if_pos e] at q
    exact lp.rt _ _ _ q _ _ H' (.bl b) kp wok (fun a h => by cases h) (fun _ _ h => by cases h) (fun _ => ⟨List.nodup_nil, fun a h => by cases h⟩)
  · rw [if_neg (by rw [e]; exact Bool.false_ne_true)] at q
    exact lx g od w' q dx σ' H' kp wok ex
/-- try: .. except C as n: return s1 if isinstance(n, y) else s2 -/
theorem ss_try_isS {body : List Stmt} {np hp rp cp q1 q2 q3 ip c1 c2 : Pos} {x0 n y : Str} {h0 h i : Nat} {b0 bb : Bool} {j1 j2} {s1 s2 : Str} {zs : Sms} (o : XOk cc c T k X Wx) (hst : X.stack = X.env :: X.outer) (hfr : X.env.frame = some X.env.locals) (hk : X.env.scope.kind = .function)
    (hx0 : cc.es[h0]? = some (x0, b0)) (hg0 : Gl X x0) (hN : cc.N[i]? = some n) (hln : X.env.scope.names.lookup n = some .local) (hd1 : (n == ("__debug__" : Str)) = false) (hd2 : (n == ("__classdict__" : Str)) = false) (hm : X.mg "isinstance" = none) (hgi : Gl X "isinstance")
    (hy : cc.es[h]? = some (y, bb)) (hgy : Gl X y) (hbf : ∀ g x b, cc.es[g]? = some (x, b) → T.er g = true → b = false)
    (hb : ∀ (W : WX) (pn : List (Addr × Obj)) (xe : Value → Shared → Prop), Takes (X.tr pn xe) W → PassesOwn (model X.prog X.w) X.A X.env xe → SSs c (X.tr pn xe) W body (wSs T zs)) :
    SS c X Wx (.Try body [.ExceptHandler (some (.Name x0 np)) (some n) [.Return (some (.IfExp (.Call (.Name "isinstance" ip) [.Name n q1, .Name y q2] [] cp) (.Constant (.str s1) j1 c1) (.Constant (.str s2) j2 c2) q3)) rp] hp] [] [] pos) (wS T (.tryx zs x0 h0 (.isS n i y h s1 s2))) := by
  have F0 := o.er h0 x0 b0 hx0
  have F := o.er h y bb hy
  have hNX : X.N[i]? = some n := by rw [o.N]; exact hN
  have hkl : X.env.kindOf n = some .local := by
    unfold Env.kindOf
    rw [hln]
  refine ⟨_, ps_try_as (i := i) (tb := fun W => Classical.choose (uniT (hb W))) (c := .ref (c.ca h0)) (ts := fun a cls d D σ H => ∃ Dc, cls = .ref Dc ∧ d = none ∧ ExcC X.K Dc ∧ (σ.length = X.N.length →
      tRet (tIf (tB (tCB (rIsE X.K Dc a) (tCons (tVar i) (tCons (tC (.ref (c.ca h))) tNil)))) (tC (.str s1)) (tC (.str s2))) D σ H)) hst hfr (by rw [o.N]; exact o.nd) hNX hkl ⟨hg0, F0.db, .inl F0.mg⟩ o.tk (fun W pn xe h1 h2 => (Classical.choose_spec (uniT (hb W))).1 pn xe h1 h2)
    (fun a oe cls d pn hz hf => ⟨fun pins s σ H D J hh => ?_⟩), fun Wo H0 A0 hd G nf ρ w σ H Pp E D hh S lp lx p => ?_⟩
  · obtain ⟨Dc, rfl, rfl, EC, q⟩ := hh
    have rule : PSs (X.suite a ((a, oe) :: pn)) [.Return (some (.IfExp (.Call (.Name "isinstance" ip) [.Name n q1, .Name y q2] [] cp) (.Constant (.str s1) j1 c1) (.Constant (.str s2) j2 c2) q3)) rp] (tRet (tIf (tB (tCB (rIsE X.K Dc a) (tCons (tVar i) (tCons (tC (.ref (c.ca h))) tNil)))) (tC (.str s1)) (tC (.str s2)))) :=
      pss_one (ps_ret (pe_ifExp (pt_val (pe_callB (call_isE EC hz hf) hgi hm (by decide +kernel) (pa_cons (pe_var hNX (.inl hln) hd1 hd2) (pa_cons (pe_glob hgy F.mg rfl F.db) pa_nil)))) pe_str pe_str))
    exact rule.run pins s σ H D J (q J.len)
  · unfold wS at p
    refine (Classical.choose_spec (uniT (hb _))).2 Wo H0 A0 hd G nf ρ w σ H Pp _ D hh S lp ?_ p
    rintro g od w' ⟨eg, q⟩ dx σ' H' kp wok ex
    refine ⟨T.sub g h0, by have := o.exm g h0 x0 b0 eg hx0; exact this, fun e a na => ?_, fun e => ?_⟩
    · rw [if_pos e] at q
      obtain ⟨rfl, q⟩ := q
      obtain ⟨xg, bg, hxg⟩ := o.eb (fun z => by rw [z] at hx0; cases hx0) g eg
      have hbg := hbf g xg bg hxg eg
      subst hbg
      refine ⟨c.ca g, rfl, ex, (o.er g xg false hxg).isa rfl, fun hlen => ?_⟩
      have hi : i < σ'.length := by
        rw [List.length_set] at hlen
        rw [hlen]
        exact (List.getElem?_eq_some_iff.mp hNX).1
      refine ⟨.ref a, List.getElem?_set_self hi, .ref (c.ca h), .ref (c.ca h), T.sub g h, rfl, fun u r => r, o.kit g h y bb eg hy, T.sub g h, rfl, ?_⟩
      by_cases z : T.sub g h = true
      · show (if T.sub g h = true then _ else _)
        rw [if_pos z]
        rw [if_pos z] at q
        exact lp.rt _ _ _ q _ _ H' (.str s1) kp wok (fun a h => by cases h) (fun _ _ h => by cases h) (fun _ => ⟨List.nodup_nil, fun a h => by cases h⟩)
      · show (if T.sub g h = true then _ else _)
        rw [if_neg z]
        rw [if_neg z] at q
        exact lp.rt _ _ _ q _ _ H' (.str s2) kp wok (fun a h => by cases h) (fun _ _ h => by cases h) (fun _ => ⟨List.nodup_nil, fun a h => by cases h⟩)
    · rw [if_neg (by rw [e]; exact Bool.false_ne_true)] at q
      exact lx g od w' q dx σ' H' kp wok ex
/-- try: .. except C as n: return s, n.f -/
theorem ss_try_tag {body : List Stmt} {np hp rp ap q1 c1 tp : Pos} {x0 n : Str} {h0 i : Nat} {b0 : Bool} {j1 k2} {s f : Str} {zs : Sms} (o : XOk cc c T k X Wx) (hst : X.stack = X.env :: X.outer) (hfr : X.env.frame = some X.env.locals) (hk : X.env.scope.kind = .function)
    (hx0 : cc.es[h0]? = some (x0, b0)) (hg0 : Gl X x0) (hN : cc.N[i]? = some n) (hln : X.env.scope.names.lookup n = some .local) (hd1 : (n == ("__debug__" : Str)) = false) (hd2 : (n == ("__classdict__" : Str)) = false)
    (hb : ∀ (W : WX) (pn : List (Addr × Obj)) (xe : Value → Shared → Prop), Takes (X.tr pn xe) W → PassesOwn (model X.prog X.w) X.A X.env xe → SSs c (X.tr pn xe) W body (wSs T zs)) :
    SS c X Wx (.Try body [.ExceptHandler (some (.Name x0 np)) (some n) [.Return (some (.Tuple [.Constant (.str s) j1 c1, .Attribute (.Name n q1) f ap] k2 tp)) rp] hp] [] [] pos) (wS T (.tryx zs x0 h0 (.tag n i f s))) := by
  have F0 := o.er h0 x0 b0 hx0
  have hNX : X.N[i]? = some n := by rw [o.N]; exact hN
  have hkl : X.env.kindOf n = some .local := by
    unfold Env.kindOf
    rw [hln]
  refine ⟨_, ps_try_as (i := i) (tb := fun W => Classical.choose (uniT (hb W))) (c := .ref (c.ca h0)) (ts := fun a cls d D σ H => ∃ C, XfC X.K C ∧ PySem.W.findIn X.K (.ref C) f = some none ∧ (σ.length = X.N.length →
      tRet (tTup (tCons (tC (.str s)) (tCons (tXf a cls d C f (tVar i)) tNil))) D σ H)) hst hfr (by rw [o.N]; exact o.nd) hNX hkl ⟨hg0, F0.db, .inl F0.mg⟩ o.tk (fun W pn xe h1 h2 => (Classical.choose_spec (uniT (hb W))).1 pn xe h1 h2)
    (fun a oe cls d pn hz hf => ⟨fun pins s' σ H D J hh => ?_⟩), fun Wo H0 A0 hd G nf ρ w σ H Pp E D hh S lp lx p => ?_⟩
  · obtain ⟨C, XC, hno, q⟩ := hh
    have rule : PSs (X.suite a ((a, oe) :: pn)) [.Return (some (.Tuple [.Constant (.str s) j1 c1, .Attribute (.Name n q1) f ap] k2 tp)) rp] (tRet (tTup (tCons (tC (.str s)) (tCons (tXf a cls d C f (tVar i)) tNil)))) :=
      pss_one (ps_ret (pe_tup (pa_cons pe_str (pa_cons (pe_xf XC hno hz hf (pe_var hNX (.inl hln) hd1 hd2)) pa_nil))))
    exact rule.run pins s' σ H D J (q J.len)
  · unfold wS at p
    refine (Classical.choose_spec (uniT (hb _))).2 Wo H0 A0 hd G nf ρ w σ H Pp _ D hh S lp ?_ p
    rintro g od w' ⟨eg, q⟩ dx σ' H' kp wok ex
    refine ⟨T.sub g h0, by have := o.exm g h0 x0 b0 eg hx0; exact this, fun e a na => ?_, fun e => ?_⟩
    · rw [if_pos e] at q
      obtain ⟨ef, q⟩ := q
      obtain ⟨xg, bg, hxg⟩ := o.eb (fun z => by rw [z] at hx0; cases hx0) g eg
      have FX := (o.er g xg bg hxg).xf
      have efl : c.fld g = f := by rw [o.fl g eg]; exact ef
      rw [efl] at FX
      refine ⟨c.ca g, FX.1, FX.2, fun hlen => ?_⟩
      have hi : i < σ'.length := by
        rw [List.length_set] at hlen
        rw [hlen]
        exact (List.getElem?_eq_some_iff.mp hNX).1
      cases od with
      | none => exact q.elim
      | some d =>
        obtain ⟨da, v, ns, rfl, e2, rp, og⟩ := ex
        refine ⟨.ref a, List.getElem?_set_self hi, rfl, rfl, da, [(c.fld g, v)], v, rfl, e2, by rw [efl]; simp [List.lookup], LIM (by show 2 ≤ 1000000; decide), fun p np => ?_⟩
        have rpa : RpA c.toKn Wo H' [.str s, v] [.str s, d] ns := by
          have := RpA.cons (Rp.str (c := c.toKn) (W := Wo) (H := H') s) (RpA.one rp)
          simpa using this
        refine lp.rt _ _ _ q (.ref p) ns _ (.tup (SqT.of upd_same) (upd_rpA rpa np)) (kp.trans (.new np)) (upd_wok wok np) og (fun _ _ e => by cases e) fun z => ?_
        by_cases pu : d.pure = true
        · rw [rp.pure_nil d pu]
          exact ⟨List.nodup_nil, fun a h => by cases h⟩
        · rw [if_neg pu] at z
          omega
    · rw [if_neg (by rw [e]; exact Bool.false_ne_true)] at q
      exact lx g od w' q dx σ' H' kp wok ex
end
end Ev

set_option Elab.async false
set_option linter.all false
set_option maxRecDepth 100000
set_option maxHeartbeats 8000000
/-! # EvY: the soundness of the reading of statements; a def's contract from its text -/
namespace Ev
open PySem PySem.Spec PyProof.Rows L2

section
variable {cc : CC} {c : Kx} {T : Tab} {k : Nat} {X : Cx} {Wx : WX} {fb : Str → Bool} {sc : Scope}
theorem set_lc {own : List (Str × Nat)} {x : Ex} {t : Tg} {i : Ix} {c' : Ox} {j : Nat} {y : Str} {py lp spos : Pos} {e' : Expr} {gs : List Comprehension} {scope : Scope} (o : XOk cc c T k X Wx) (hs : X.env.scope = sc) (hf : X.fn = fb) (h : okE cc (.lc own x t i c') fb sc (.ListComp e' gs scope lp) = true) (hy : X.N[j]? = some y)
    (hyl : X.env.scope.names.lookup y = some .local) (sw : swapsWith (.ListComp e' gs scope lp) (some (.Name y py)) spos.line X.env = pure true) :
    SSet c X Wx (.Assign [.Name y py] (.ListComp e' gs scope lp) spos) j (fvE (.lc own x t i c')) (wE T (.lc own x t i c')) := by
  unfold okE at h
  split at h
  · rename_i e' tg it ifs ia scope pos he
    cases he
    simp only [Bool.and_eq_true, decide_eq_true_eq, List.all_eq_true] at h
    obtain ⟨⟨⟨⟨⟨⟨⟨⟨rfl, h1⟩, h2⟩, h3⟩, h4⟩, h5⟩, h6⟩, h7⟩, h8⟩ := h
    have sB : ∀ b, (bkc X scope b).env.scope = relS scope sc := fun b => by rw [← hs]; rfl
    obtain ⟨wi, pi, hwi⟩ := ok_i i o hs hf h6
    obtain ⟨tt, ptt, htt⟩ := uniC (scope := scope) (X := X) (c := c) (ifs := ifs) (P := wC T c') fun b => ok_c c' (o.blk (scope := scope) b) (sB b) rfl h7
    obtain ⟨te, pte, hte⟩ := uniE (scope := scope) (X := X) (c := c) (Wx := WF) (e := e') (fv := fvE x) (P := wE T x) fun b => (ok_e x (o.blk (scope := scope) b) (sB b) rfl h8).1
    have pg : ∀ b : BI, PG (bkc X scope b) tg (gOf c.K t) := fun b => by
      have := pg_of (X := bkc X scope b) (by show X.N.Nodup; rw [o.N]; exact o.nd) o.calm (okTg_ok (o.blk (scope := scope) b) (sB b) rfl h2)
      rw [← o.K]
      exact this
    exact ⟨_, ps_setLc o.calm (by rw [o.N]; exact o.nd) hy hyl sw pi (blkOk_by (by rw [o.N, hs]; exact h1)) (fun s H C cl fp => pg (s, H, C, cl, fp)) (fun s H C cl fp => ptt (s, H, C, cl, fp)) (fun s H C cl fp => pte (s, H, C, cl, fp)) (noSet_fold h5), sem_lc hwi htt hte h3 h4⟩
  · cases h
theorem set_lc2 {own : List (Str × Nat)} {x : Ex} {t t2 : Tg} {i i2 : Ix} {c' c2 : Ox} {j : Nat} {y : Str} {py lp spos : Pos} {e' : Expr} {gs : List Comprehension} {scope : Scope} (o : XOk cc c T k X Wx) (hs : X.env.scope = sc) (hf : X.fn = fb) (h : okE cc (.lc2 own x t i c' t2 i2 c2) fb sc (.ListComp e' gs scope lp) = true) (hy : X.N[j]? = some y)
    (hyl : X.env.scope.names.lookup y = some .local) (sw : swapsWith (.ListComp e' gs scope lp) (some (.Name y py)) spos.line X.env = pure true) :
    SSet c X Wx (.Assign [.Name y py] (.ListComp e' gs scope lp) spos) j (fvE (.lc2 own x t i c' t2 i2 c2)) (wE T (.lc2 own x t i c' t2 i2 c2)) := by
  unfold okE at h
  split at h
  · rename_i e' tg it ifs ia tg2 it2 ifs2 ia2 scope pos he
    cases he
    simp only [Bool.and_eq_true, decide_eq_true_eq, List.all_eq_true] at h
    obtain ⟨⟨⟨⟨⟨⟨⟨⟨⟨⟨⟨⟨⟨⟨⟨rfl, rfl⟩, h1⟩, h2⟩, h3⟩, h4⟩, h5⟩, h6⟩, h7⟩, g2⟩, g3⟩, g4⟩, g5⟩, g6⟩, g7⟩, h8⟩ := h
    have sB : ∀ b, (bkc X scope b).env.scope = relS scope sc := fun b => by rw [← hs]; rfl
    obtain ⟨wi, pi, hwi⟩ := ok_i i o hs hf h6
    obtain ⟨tt, ptt, htt⟩ := uniC (scope := scope) (X := X) (c := c) (ifs := ifs) (P := wC T c') fun b => ok_c c' (o.blk (scope := scope) b) (sB b) rfl h7
    obtain ⟨wi2, pi2, hwi2⟩ := uniI (scope := scope) (X := X) (c := c) (Wx := WF) (tg := tg2) (it := it2) (fv := fvI i2) (P := wI T i2) fun b => ok_i i2 (o.blk (scope := scope) b) (sB b) rfl g6
    obtain ⟨tt2, ptt2, htt2⟩ := uniC (scope := scope) (X := X) (c := c) (ifs := ifs2) (P := wC T c2) fun b => ok_c c2 (o.blk (scope := scope) b) (sB b) rfl g7
    obtain ⟨te, pte, hte⟩ := uniE (scope := scope) (X := X) (c := c) (Wx := WF) (e := e') (fv := fvE x) (P := wE T x) fun b => (ok_e x (o.blk (scope := scope) b) (sB b) rfl h8).1
    have pg : ∀ {t tg}, okTg cc (blF scope) (relS scope sc) t tg = true → ∀ b : BI, PG (bkc X scope b) tg (gOf c.K t) := fun h2 b => by
      have := pg_of (X := bkc X scope b) (by show X.N.Nodup; rw [o.N]; exact o.nd) o.calm (okTg_ok (o.blk (scope := scope) b) (sB b) rfl h2)
      rw [← o.K]
      exact this
    exact ⟨_, ps_setLc2 o.calm (by rw [o.N]; exact o.nd) hy hyl sw pi (blkOk_by (by rw [o.N, hs]; exact h1)) g4 (fun s H C cl fp => pg h2 (s, H, C, cl, fp)) (fun s H C cl fp => ptt (s, H, C, cl, fp)) (fun s H C cl fp => pi2 (s, H, C, cl, fp)) (fun s H C cl fp => pg g2 (s, H, C, cl, fp)) (fun s H C cl fp => ptt2 (s, H, C, cl, fp)) (fun s H C cl fp => pte (s, H, C, cl, fp)) (noSet_fold h5) (fun env => noSet_fold g5), sem_lc2 hwi htt hwi2 htt2 hte h3 g3 h4⟩
  · cases h
theorem sw_bit {e' : Expr} {gs : List Comprehension} {scope : Scope} {lp py : Pos} {y : Str} {l : Nat} {env : Env} :
    swapsWith (.ListComp e' gs scope lp) (some (.Name y py)) l env = pure (env.blockKind == .function && env.kindOf y == some .local && py.line == lp.line && !coKinds scope y) := rfl
theorem ss_setc {x : Ex} {j : Nat} {y : Str} {py lp spos : Pos} {e' : Expr} {gs : List Comprehension} {scope : Scope} (o : XOk cc c T k X Wx) (hs : X.env.scope = sc) (hf : X.fn = fb) (hy : stoB cc fb sc j y = true) (h : okE cc x fb sc (.ListComp e' gs scope lp) = true)
    (hx : isLc x = true) : SS c X Wx (.Assign [.Name y py] (.ListComp e' gs scope lp) spos) (wS T (.setc j x)) := by
  obtain ⟨h1, h2, h3⟩ := stoB_ok o hs hf hy
  have S : SSet c X Wx (.Assign [.Name y py] (.ListComp e' gs scope lp) spos) j (fvE x) (wE T x) := by
    by_cases b : (X.env.blockKind == .function && X.env.kindOf y == some .local && py.line == lp.line && !coKinds scope y) = true
    · have sw : swapsWith (.ListComp e' gs scope lp) (some (.Name y py)) spos.line X.env = pure true := by rw [sw_bit, b]
      simp only [Bool.and_eq_true, beq_iff_eq] at b
      have hyl : X.env.scope.names.lookup y = some .local := b.1.1.2
      cases x <;> first
        | exact set_lc o hs hf h h1 hyl sw
        | exact set_lc2 o hs hf h h1 hyl sw
        | exact absurd hx Bool.false_ne_true
    · have sw : swapsWith (.ListComp e' gs scope lp) (some (.Name y py)) spos.line X.env = pure false := by
        rw [sw_bit]
        simp only [Bool.not_eq_true] at b
        rw [b]
      obtain ⟨t, pt, ht⟩ := (ok_e x o hs hf h).1
      exact ⟨t, ps_set (by rw [o.N]; exact o.nd) h1 h2 pt sw h3, ht⟩
  have := ss_set S
  obtain ⟨t, pt, ht⟩ := this
  exact ⟨t, pt, ht⟩
end

mutual
theorem ok_s {cc : CC} {c : Kx} {T : Tab} {k : Nat} {X : Cx} {Wx : WX} {fb : Str → Bool} {sc : Scope} (o : XOk cc c T k X Wx) (hs : X.env.scope = sc) (hf : X.fn = fb) (hk : sc.kind = .function) (hst : X.stack = X.env :: X.outer) (hfr : X.env.frame = some X.env.locals) : ∀ (x : Sm) {s : Stmt}, okS cc x fb sc s = true → SS c X Wx s (wS T x)
  | .set i x, s, h => by
    unfold okS at h
    split at h
    · simp only [Bool.and_eq_true] at h
      obtain ⟨⟨h1, h2⟩, h3⟩ := h
      obtain ⟨q1, q2, q3⟩ := stoB_ok o hs hf h1
      exact ss_set (sset_of (by rw [o.N]; exact o.nd) q1 q2 q3 h2 (ok_e x o hs hf h3).1)
    · cases h
  | .setc i x, s, h => by
    unfold okS at h
    split at h
    · simp only [Bool.and_eq_true] at h
      exact ss_setc o hs hf h.1.1 h.1.2 h.2
    · cases h
  | .par i j a b, s, h => by
    unfold okS at h
    split at h
    · simp only [Bool.and_eq_true, decide_eq_true_eq] at h
      obtain ⟨⟨⟨⟨⟨h1, h2⟩, h3⟩, h4⟩, h5⟩, h6⟩ := h
      have h4' := h4
      simp only [sw2, Bool.and_eq_true, decide_eq_true_eq] at h4'
      obtain ⟨⟨⟨⟨⟨⟨⟨g1, g2⟩, _⟩, _⟩, g5⟩, g6⟩, _⟩, _⟩ := h4'
      exact ss_par o.calm (by rw [o.N]; exact o.nd) (by rw [o.N]; exact h2) (by rw [o.N]; exact h3) h1 (by rw [hs]; exact g1) (by rw [hs]; exact g2) g5 g6 (sw2_ok hs hk h4) (ok_e a o hs hf h5).1 (ok_e b o hs hf h6).1
    · cases h
  | .par3 i j l a b d, s, h => by
    unfold okS at h
    split at h
    · simp only [Bool.and_eq_true, decide_eq_true_eq] at h
      obtain ⟨⟨⟨⟨⟨⟨⟨⟨⟨h1, h2⟩, h3⟩, h4⟩, h5⟩, h6⟩, h7⟩, h8⟩, h9⟩, h10⟩ := h
      have h7' := h7
      simp only [sw3, Bool.and_eq_true, decide_eq_true_eq] at h7'
      obtain ⟨⟨⟨⟨⟨⟨⟨⟨⟨⟨⟨⟨g1, g2⟩, g3⟩, _⟩, _⟩, _⟩, _⟩, _⟩, g9⟩, g10⟩, g11⟩, _⟩, _⟩ := h7'
      exact ss_par3 o.calm (by rw [o.N]; exact o.nd) (by rw [o.N]; exact h4) (by rw [o.N]; exact h5) (by rw [o.N]; exact h6) h1 h2 h3 (by rw [hs]; exact g1) (by rw [hs]; exact g2) (by rw [hs]; exact g3) g9 g10 g11 (sw3_ok hs hk h7) (ok_e a o hs hf h8).1 (ok_e b o hs hf h9).1 (ok_e d o hs hf h10).1
    · cases h
  | .tset ts x, s, h => by
    unfold okS at h
    split at h
    · simp only [Bool.and_eq_true] at h
      obtain ⟨⟨⟨h1, h2⟩, h3⟩, h4⟩ := h
      exact ss_tset o.calm o.K h2 (okTs_ok o hs hf h1) (ok_e x o hs hf h4).1 (swN_ok hs h3)
    · cases h
  | .sub i xi x, s, h => by
    unfold okS at h
    split at h
    · simp only [Bool.and_eq_true] at h
      obtain ⟨⟨⟨⟨h1, h2⟩, h3⟩, h4⟩, h5⟩ := h
      exact ss_sub (varB_ok o hs h1) h2 h3 (ok_e x o hs hf h4).1 (ok_e xi o hs hf h5).1
    · cases h
  | .sub2 i xi xj x, s, h => by
    unfold okS at h
    split at h
    · simp only [Bool.and_eq_true] at h
      obtain ⟨⟨⟨⟨⟨⟨h1, h2⟩, h3⟩, h4⟩, h5⟩, h6⟩, h7⟩ := h
      exact ss_sub2 o.K (varB_ok o hs h1) h2 h3 h4 (ok_e x o hs hf h5).1 (ok_e xi o hs hf h6).1 (ok_e xj o hs hf h7).1
    · cases h
  | .asb i neg xi x, s, h => by
    unfold okS at h
    split at h
    · simp only [Bool.and_eq_true, decide_eq_true_eq] at h
      obtain ⟨⟨⟨⟨rfl, h1⟩, h3⟩, h4⟩, h5⟩ := h
      exact asb_core o.K (varB_ok o hs h1) h3 (ok_e x o hs hf h4).1 (ok_e xi o hs hf h5).1
    · cases h
  | .aug i neg x, s, h => by
    unfold okS at h
    split at h
    · simp only [Bool.and_eq_true, decide_eq_true_eq] at h
      obtain ⟨⟨rfl, h1⟩, h3⟩ := h
      obtain ⟨q1, q2, q3⟩ := stoB_ok o hs hf h1
      exact ss_aug (by rw [o.N]; exact o.nd) q1 q2 q3 (ok_e x o hs hf h3).1
    · cases h
  | .app i x, s, h => by
    unfold okS at h
    split at h
    · simp only [Bool.and_eq_true, decide_eq_true_eq] at h
      obtain ⟨⟨⟨⟨rfl, h1⟩, h2⟩, h3⟩, h4⟩ := h
      exact ss_app o.K (varB_ok o hs h2) h3 h1 (ok_e x o hs hf h4).1
    · cases h
  | .appm i j, s, h => by
    unfold okS at h
    split at h
    · simp only [Bool.and_eq_true, decide_eq_true_eq] at h
      obtain ⟨⟨⟨rfl, h1⟩, h2⟩, h3⟩ := h
      exact ss_appm o.K (varB_ok o hs h2) (varB_ok o hs h3) h1
    · cases h
  | .pop j i x, s, h => by
    unfold okS at h
    split at h
    · simp only [Bool.and_eq_true, decide_eq_true_eq] at h
      obtain ⟨⟨⟨⟨⟨rfl, h2⟩, h3⟩, h4⟩, h5⟩, h6⟩ := h
      obtain ⟨q1, q2, q3⟩ := stoB_ok o hs hf h3
      exact ss_pop (by rw [o.N]; exact o.nd) q1 q2 q3 (varB_ok o hs h4) h5 h2 (ok_e x o hs hf h6).1
    · cases h
  | .expr x, s, h => by
    unfold okS at h
    split at h
    · simp only [Bool.and_eq_true] at h
      exact ss_expr h.1 (ok_e x o hs hf h.2).1
    · cases h
  | .ret x, s, h => by
    unfold okS at h
    split at h
    · exact ss_ret (ok_e x o hs hf h).1
    · cases h
  | .retv i, s, h => by
    unfold okS at h
    split at h
    · exact ss_retv (varB_ok o hs h)
    · cases h
  | .retN, s, h => by
    unfold okS at h
    split at h
    · exact ss_retN
    · cases h
  | .iff d a b, s, h => by
    unfold okS at h
    split at h
    · simp only [Bool.and_eq_true] at h
      obtain ⟨⟨⟨h1, h2⟩, h3⟩, h4⟩ := h
      exact ss_iff ((ok_e d o hs hf h2).2 h1) (ok_ss o hs hf hk hst hfr a h3) (ok_ss o hs hf hk hst hfr b h4)
    · cases h
  | .forr t i b, s, h => by
    unfold okS at h
    split at h
    · simp only [Bool.and_eq_true, decide_eq_true_eq] at h
      obtain ⟨⟨⟨⟨h1, h2⟩, h3⟩, h4⟩, h5⟩ := h
      exact ss_forr o.po o.calm o.K (by rw [o.N]; exact o.nd) (okTg_ok o hs hf h1) h2 (ok_i i o hs hf h3) (noSet_fold h4) (ok_ss o hs hf hk hst hfr b h5)
    · cases h
  | .whl d b, s, h => by
    unfold okS at h
    split at h
    · simp only [Bool.and_eq_true] at h
      obtain ⟨⟨h1, h2⟩, h3⟩ := h
      exact ss_whl o.po ((ok_e d o hs hf h2).2 h1) (ok_ss o hs hf hk hst hfr b h3)
    · cases h
  | .rse x g es, s, h => by
    unfold okS at h
    split at h
    · simp only [Bool.and_eq_true, decide_eq_true_eq] at h
      obtain ⟨⟨rfl, h2⟩, h3⟩ := h
      exact ss_rse0 o.calm o.tk (o.er _ _ _ h2) (glB_ok hs h3)
    · simp only [Bool.and_eq_true, decide_eq_true_eq] at h
      obtain ⟨⟨⟨⟨rfl, h2⟩, h3⟩, h4⟩, h5⟩ := h
      exact ss_rse1 o.K o.calm (o.rm fun z => by rw [z] at h2; cases h2) o.tk (o.er _ _ _ h2) (glB_ok hs h3) h4 (ok_e _ o hs hf h5).1
    · cases h
  | .ins i xi x, s, h => by
    unfold okS at h
    split at h
    · simp only [Bool.and_eq_true, decide_eq_true_eq] at h
      obtain ⟨⟨⟨⟨⟨⟨rfl, h2⟩, h3⟩, h4⟩, h5⟩, h6⟩, h7⟩ := h
      exact ss_ins o.K (varB_ok o hs h3) h4 h5 h2 (ok_e xi o hs hf h6).1 (ok_e x o hs hf h7).1
    · cases h
  | .tryx b x n r, s, h => by
    unfold okS at h
    split at h
    · simp only [Bool.and_eq_true, Bool.or_eq_true, decide_eq_true_eq] at h
      obtain ⟨⟨⟨⟨rfl, h2⟩, h3⟩, h4⟩, h5⟩ := h
      obtain ⟨bb, h2⟩ : ∃ bb, cc.es[n]? = some (_, bb) := h2.elim (fun z => ⟨_, z⟩) fun z => ⟨_, z⟩
      unfold okHk at h4
      split at h4
      · simp only [Bool.and_eq_true, Bool.or_eq_true, decide_eq_true_eq, Bool.not_eq_true', List.all_eq_true] at h4
        obtain ⟨⟨⟨⟨⟨⟨⟨⟨⟨⟨⟨⟨⟨⟨rfl, g1⟩, g2⟩, g3⟩, g4⟩, g5⟩, rfl⟩, g7⟩, g8⟩, g9⟩, ga⟩, gb⟩, rfl⟩, rfl⟩, gf⟩ := h4
        subst g1 g9
        obtain ⟨b2, gb⟩ : ∃ bb, cc.es[_]? = some (_, bb) := gb.elim (fun z => ⟨_, z⟩) fun z => ⟨_, z⟩
        exact ss_try_isS o hst hfr (by rw [hs]; exact hk) h2 (glB_ok hs h3) g2 (by rw [hs]; exact g3) g4 g5 (isBl_ok o g7) (glB_ok hs g8) gb (glB_ok hs ga) (fun g x b e _ => gf _ (List.mem_of_getElem? e)) fun W pn xe t1 t2 => ok_ss (X := X.tr pn xe) (o.tr t1 t2) hs hf hk hst hfr b h5
      · simp only [Bool.and_eq_true, decide_eq_true_eq, Bool.not_eq_true'] at h4
        obtain ⟨⟨⟨⟨⟨⟨⟨rfl, g1⟩, g2⟩, g3⟩, g4⟩, g5⟩, rfl⟩, rfl⟩ := h4
        subst g1
        exact ss_try_tag o hst hfr (by rw [hs]; exact hk) h2 (glB_ok hs h3) g2 (by rw [hs]; exact g3) g4 g5 fun W pn xe t1 t2 => ok_ss (X := X.tr pn xe) (o.tr t1 t2) hs hf hk hst hfr b h5
      · have h4 := of_decide_eq_true h4
        subst h4
        exact ss_try_ret o hst hfr h2 (glB_ok hs h3) fun W pn xe t1 t2 => ok_ss (X := X.tr pn xe) (o.tr t1 t2) hs hf hk hst hfr b h5
      · cases h4
    · cases h
  | .pas, s, h => by
    unfold okS at h
    split at h
    · exact ss_pas
    · exact ss_doc
    · cases h
  | .brk, s, h => by
    unfold okS at h
    split at h
    · exact ss_brk
    · cases h
  | .cnt, s, h => by
    unfold okS at h
    split at h
    · exact ss_cnt
    · cases h
  | .never, s, h => ss_never
theorem ok_ss {cc : CC} {c : Kx} {T : Tab} {k : Nat} {X : Cx} {Wx : WX} {fb : Str → Bool} {sc : Scope} (o : XOk cc c T k X Wx) (hs : X.env.scope = sc) (hf : X.fn = fb) (hk : sc.kind = .function) (hst : X.stack = X.env :: X.outer) (hfr : X.env.frame = some X.env.locals) : ∀ (x : Sms) {ss : List Stmt}, okSs cc x fb sc ss = true → SSs c X Wx ss (wSs T x)
  | .nil, ss, h => by
    have : ss = [] := by simpa [okSs] using h
    subst this
    exact sss_nil
  | .cons x xs, ss, h => by
    unfold okSs at h
    split at h
    · simp only [Bool.and_eq_true] at h
      exact sss_cons (ok_s o hs hf hk hst hfr x h.1) (ok_ss o hs hf hk hst hfr xs h.2)
    · cases h
end
end Ev

set_option Elab.async false
set_option linter.all false
set_option maxRecDepth 100000
set_option maxHeartbeats 8000000
/-! # EvZ: a def's contract from its text; the end of a law -/
namespace Ev
open PySem PySem.Spec PyProof.Rows L2

/-- the parameters' values; the other names are not bound yet -/
def startS (n : Nat) (ds : List D) : Slots := ds.map (fun d => some (d, 0)) ++ List.replicate (n - ds.length) none
/-- what stands in the text, for whatever body -/
structure Sx (cc : CC) (c : Kx) (T : Tab) (k : Nat) (P : Program) (w : World) (mg : Str → Option Value) (base : Heap) : Prop where
  fn : ∀ g x, cc.fs[g]? = some x → ∀ X : Cx, X.prog = P → X.w = w → X.K = c.K → X.mg = mg → X.base = base → HasFn c X k x g (T.fn g)
  kw : ∀ m x ks, cc.ks[m]? = some (x, ks) → ∀ X : Cx, X.prog = P → X.w = w → X.K = c.K → X.mg = mg → X.base = base → HasKw c X k x ks (T.kw m)
  cv : ∀ g, T.cv g = true → ∀ X : Cx, X.prog = P → X.w = w → X.K = c.K → X.mg = mg → X.base = base → HasV c X k g (T.fn g)
  cst : ∀ m x, cc.cs[m]? = some x → ∃ u v, mg x = some u ∧ RelV v u ∧ (x == ("__debug__" : Str)) = false ∧ (T.cs m).pure = true ∧ ∀ H, Rp c.toKn none H v (T.cs m) []
  bl : ∀ x ∈ cc.bl, mg x = none
  gcd : cc.gcd = true → mg "gcd" = some (.builtin "math.gcd")
  rm : cc.es ≠ [] → 2 ≤ k
  er : ∀ g x b, cc.es[g]? = some (x, b) → ∀ X : Cx, X.prog = P → X.w = w → X.K = c.K → X.mg = mg → X.base = base → HasEr c X x g b
  exm : ∀ g h y b, T.er g = true → cc.es[h]? = some (y, b) → PySem.W.exmOne c.K (.ref (c.ca g)) (.ref (c.ca h)) = some (T.sub g h)
  fl : ∀ g, T.er g = true → c.fld g = T.fl g
  kit : ∀ g h y b, T.er g = true → cc.es[h]? = some (y, b) → PySem.W.kitOne c.K (.ref (c.ca g)) (.ref (c.ca h)) = some (T.sub g h)
  eb : cc.es ≠ [] → ∀ g, T.er g = true → ∃ x b, cc.es[g]? = some (x, b)

section
variable {P : Program} {w : World} {c : Kx} {mg : Str → Option Value} {base : Heap} {cc : CC} {T : Tab} {k : Nat}
theorem xok_of {qual : Str} {sc : Scope} {f : Addr} {cd : Value} {A : Around} {outer : List Env} {s : Shared} {H : Hp} {E : XK} (sx : Sx cc c T k P w mg base) (nd : cc.N.Nodup) (hr : Room k (A.deeper (envOfC qual sc s.heap.objs.size f cd))) (hg : A.guards = some []) :
    XOk cc c T k (cxOf (CX P w) P w c.K mg base cc.N qual sc f cd A outer s H E) (fun cls d _ H' => E cls d H') where
  K := rfl
  N := rfl
  nd := nd
  calm := rfl
  room := hr
  gd := hg
  po := passes_of (X := cxOf (CX P w) P w c.K mg base cc.N qual sc f cd A outer s H E) (K := fun e s'' => CX P w outer H s E e s'') (E₁ := fun e' s'' => CX P w outer H s E e' s'') rfl
  tk := takes_of (X := cxOf (CX P w) P w c.K mg base cc.N qual sc f cd A outer s H E) (E := E) (E₁ := fun e' s'' => CX P w outer H s E e' s'') rfl rfl rfl rfl
  fn := fun g x h => sx.fn g x h _ rfl rfl rfl rfl rfl
  kw := fun m x ks h => sx.kw m x ks h _ rfl rfl rfl rfl rfl
  cv := fun g h => sx.cv g h _ rfl rfl rfl rfl rfl
  cst := sx.cst
  bl := sx.bl
  gcd := sx.gcd
  rm := fun h => hr.mono (sx.rm h)
  er := fun g x b h => sx.er g x b h _ rfl rfl rfl rfl rfl
  exm := sx.exm
  fl := sx.fl
  kit := sx.kit
  eb := sx.eb
theorem RpA.nodes {c : Kn} {W : Option Addr} {H : Hp} : ∀ {ds : List D} {vs : List V} {ns : List Addr}, RpA c W H vs ds ns → ∃ nf : Nat → List Addr, (∀ (i : Nat) d, ds[i]? = some d → ∃ v, vs[i]? = some v ∧ Rp c W H v d (nf i)) ∧ ∀ i, ∀ a ∈ nf i, a ∈ ns
  | [], _, _, h => ⟨fun _ => [], fun i d e => by simp at e, fun i a h => by simp at h⟩
  | d :: ds, _, _, h => by
    cases h with
    | @cons v vs' _ _ n1 n2 r1 r2 =>
      obtain ⟨nf, h1, h2⟩ := RpA.nodes r2
      refine ⟨fun i => match i with
        | 0 => n1
        | j + 1 => nf j, fun i d' e => ?_, fun i a ha => ?_⟩
      · cases i with
        | zero =>
          have e : d = d' := by simpa using e
          subst e
          exact ⟨v, rfl, r1⟩
        | succ j => exact h1 j d' (by simpa using e)
      · cases i with
        | zero => exact List.mem_append_left _ ha
        | succ j => exact List.mem_append_right _ (h2 j a ha)
theorem startS_get {n : Nat} {ds : List D} {i : Nat} {d : D} {o : Nat} (h : (startS n ds)[i]? = some (some (d, o))) : ds[i]? = some d ∧ o = 0 := by
  unfold startS at h
  by_cases hi : i < ds.length
  · rw [List.getElem?_append_left (by simpa using hi), List.getElem?_map] at h
    cases e : ds[i]? with
    | none => rw [e] at h; cases h
    | some a => rw [e] at h; cases h; exact ⟨rfl, rfl⟩
  · rw [List.getElem?_append_right (by simpa using hi), List.getElem?_replicate] at h
    split at h <;> cases h
/-- THE RULE: a def of the text keeps its contract, if the reading of its tree at its parameters gives it -/
theorem fn_def {x qual : Str} {st : Stmt} {f : Addr} {fd : FuncData} {ps : List Str} {body : Sms} {S : Spc} (F : Fun c.K x qual st f fd) (FS : FnScope cc.N ps (defScope st)) (ok : okSs cc body (fun _ => true) (defScope st) (defBody st) = true) (sx : Sx cc c T k P w mg base)
    (spec : ∀ ds w K E, S ds w K E → ds.length = ps.length ∧ wSs T body (startS cc.N.length ds) w { nx := fun _ w' => K .non 2 w', rt := K } E) : FnG P w c.K mg base (k + 1) f fd ps (spOf c S) := by
  refine fnG_of F FS (fun vs H Q E h => ?_) fun cdv A outer s H vs Q E hr hg h => ?_
  · obtain ⟨Wo, w', ds, A0, K, E', r, _, sp, _⟩ := h
    rw [r.length]
    exact (spec _ _ _ _ sp).1
  obtain ⟨Wo, w', ds, A0, K, E', r, wok, sp, hK, hE⟩ := h
  obtain ⟨hl, sp⟩ := spec _ _ _ _ sp
  obtain ⟨t, pt, ht⟩ := ok_ss (xok_of (E := E) (outer := outer) (H := H) sx FS.nd hr hg) rfl rfl FS.kind rfl rfl body ok
  obtain ⟨nf, hnf, hns⟩ := r.nodes
  refine ⟨t, pt, ht Wo H A0 [] (fun _ => True) nf (startS cc.N.length ds) w' (L2.start cc.N vs) H _ E' _ (fun _ _ _ _ _ _ _ => trivial) ?_ ?_ ?_ sp⟩
  · refine ⟨⟨fun i d o e => ?_, wok, ?_⟩, .refl, fun i lv a ha => .inr (hns i a ha), fun k a ow => ?_, fun k d o e ho => ?_, fun k d o e ho => ?_, fun a ha => by simp at ha, trivial⟩
    · obtain ⟨e1, _⟩ := startS_get e
      obtain ⟨v, h1, h2⟩ := hnf i d e1
      refine ⟨v, ?_, h2⟩
      have hi : i < vs.length := (List.getElem?_eq_some_iff.mp h1).1
      unfold L2.start
      rw [List.getElem?_append_left (by simpa using hi), List.getElem?_map, h1]
      rfl
    · unfold L2.start startS
      simp only [List.length_append, List.length_map, List.length_replicate, r.length]
    · obtain ⟨d, o, e, h⟩ := ow
      have := (startS_get e).2
      rcases h with ⟨q, _⟩ | ⟨q, _⟩ <;> omega
    · have := (startS_get e).2
      omega
    · have := (startS_get e).2
      omega
  · refine ⟨fun ρ' w1 k nf' σ' H' S' => hK _ _ _ k .non [] H' .non S'.kp S'.wok (fun a h => by simp at h) (fun _ _ _ a m h => by simp at h) (fun _ => ⟨List.nodup_nil, fun a h => by simp at h⟩), fun _ _ k => k.elim, fun _ _ k => k.elim, fun d fr w1 k v ns H' r k' o og f1 f2 => hK d fr w1 k v ns H' r k' o og f1 f2⟩
  · exact fun g od w1 e dx σ' H' kp ok ex => hE g od w1 e dx H' kp ok ex
end

/-! ### calls with keywords: places by the parameters' order -/
def pick {α : Type} (m1 m2 : Nat) (pm : List Nat) (us ws : List α) : List α := if us.length = m1 ∧ ws.length = m2 then pm.filterMap fun i => (us ++ ws)[i]? else []
theorem vals_len {vs : List V} {us : List Value} (r : Vals vs us) : vs.length = us.length := r.length
theorem pick_vals {m1 m2 : Nat} {pm : List Nat} {vs zs : List V} {us ws : List Value} (r : Vals vs us) (r2 : Vals zs ws) : Vals (pick m1 m2 pm vs zs) (pick m1 m2 pm us ws) := by
  unfold pick
  rw [r.length, r2.length]
  split
  · have rr := Vals.append r r2
    clear r r2
    induction pm with
    | nil => exact .nil
    | cons i pm ih =>
      cases e : (vs ++ zs)[i]? with
      | none =>
        have : (us ++ ws)[i]? = none := by
          rw [List.getElem?_eq_none_iff] at e ⊢
          rw [← rr.length]; exact e
        rw [List.filterMap_cons_none e, List.filterMap_cons_none this]
        exact ih
      | some v =>
        obtain ⟨u, h1, h2⟩ := rr.get e
        rw [List.filterMap_cons_some e, List.filterMap_cons_some h1]
        exact .cons h2 ih
  · exact .nil
theorem pick_rp {c : Kn} {W : Option Addr} {H : Hp} {m1 m2 : Nat} {pm : List Nat} {vs us : List V} {ds es : List D} {n1 n2 : List Addr} (r : RpA c W H vs ds n1) (r2 : RpA c W H us es n2) : ∃ n3, RpA c W H (pick m1 m2 pm vs us) (pick m1 m2 pm ds es) n3 ∧ ∀ a ∈ n3, a ∈ n1 ++ n2 := by
  unfold pick
  rw [r.length, r2.length]
  split
  · have rr := r.append r2
    clear r r2
    induction pm with
    | nil => exact ⟨[], .nil, fun a h => by simp at h⟩
    | cons i pm ih =>
      obtain ⟨n3, h1, h2⟩ := ih
      cases e : (ds ++ es)[i]? with
      | none =>
        have : (vs ++ us)[i]? = none := by
          rw [List.getElem?_eq_none_iff] at e ⊢
          rw [rr.length]; exact e
        rw [List.filterMap_cons_none e, List.filterMap_cons_none this]
        exact ⟨n3, h1, h2⟩
      | some d =>
        obtain ⟨v, n4, g1, g2, g3⟩ := rr.get e
        rw [List.filterMap_cons_some e, List.filterMap_cons_some g1]
        exact ⟨n4 ++ n3, .cons g2 h1, fun a ha => (List.mem_append.mp ha).elim (g3 a) (h2 a)⟩
  · exact ⟨[], .nil, fun a h => by simp at h⟩
theorem kbinds_pick {K : PySem.W.Frag} {fd : FuncData} {ps ks : List Str} {m1 m2 : Nat} {pm : List Nat} (hp : 0 < ps.length) (h : ∀ us ws : List Value, us.length = m1 → ws.length = m2 → bindArgs fd ⟨us, ks.zip ws⟩ = pure (ps.zip (pick m1 m2 pm us ws))) : KBinds K fd ps ks (pick m1 m2 pm) (pick m1 m2 pm) :=
  ⟨fun s us ws _ hl => by
    by_cases q : us.length = m1 ∧ ws.length = m2
    · exact .of_eq (h us ws q.1 q.2)
    · unfold pick at hl
      rw [if_neg q] at hl
      simp at hl
      omega, fun r r2 => pick_vals r r2⟩

/-! ### the end of a law -/
/-- the script alone is tracked, if it is no object of the module -/
def scrH (K : PySem.W.Frag) (a : Addr) (o : Obj) (xs : List V) : Hp := fun b => if b = a ∧ (K.lookup a).isNone = true then some (.frz o (.lst xs)) else none
theorem scrH_no {K : PySem.W.Frag} {a b : Addr} {o : Obj} {xs : List V} {u : HO} (h : scrH K a o xs b = some u) : b = a ∧ K.lookup a = none ∧ u = .frz o (.lst xs) := by
  unfold scrH at h
  split at h
  · rename_i q
    cases h
    exact ⟨q.1, by simpa using q.2, rfl⟩
  · cases h
theorem scrH_free {K : PySem.W.Frag} {a b : Addr} {o : Obj} {xs : List V} {v : Obj} (h : K.lookup b = some v) : scrH K a o xs b = none := by
  cases e : scrH K a o xs b with
  | none => rfl
  | some u =>
    obtain ⟨rfl, q, _⟩ := scrH_no e
    rw [q] at h; cases h
theorem end_call {P : Program} {w : World} {c : Kx} {mg mb : Str → Option Value} {k : Nat} {fa a : Addr} {fd : FuncData} {x : Str} {sp : Sp} {st : Shared} {us : List Value} {ns : List Int}
    (KI : c.K.In st.heap) (gl : st.heap.Ns mainGlobals mg) (bi : st.heap.Ns builtinsNs mb) (bb : ∀ y : Str, y ≠ "__name__" → mb y = bootBuiltins y) (nl : st.heap.NoLimit) (ng : st.gens = #[])
    (la : st.heap.get? a = some { cls := .type "list", data := .seq us.toArray }) (iv : IntsAre us ns) (small : ns.length ≤ sizeLine) (rm : Room k callerA)
    (F : ∀ base : Heap, c.K.In base → base.Ns mainGlobals mg → FnG P w c.K mg base k fa fd [x] sp) (bd : ∀ (s : Shared) (u : Value), BindsTo s fd ⟨[u], []⟩ [(x, u)])
    (ask : ∀ H : Hp, SqF c.K H a (ns.map V.int) → sp [.ref a] H (fun v _ => v = .bl true) fun _ _ _ => False) :
    codeAny (model P w) callerA (.call (.ref fa) ⟨[.ref a], []⟩) (fun r t => r = .ok (.ret (.bool true)) ∧ OldK st.heap t.heap ∧ t.os = st.os ∧ AllBare t.gens) st := by
  have rel := vals_ints iv
  have le := iv.length
  generalize hH : scrH c.K a { cls := .type "list", data := .seq us.toArray } (ns.map V.int) = H
  have known : ∀ b u, H b = some u → b = a ∧ c.K.lookup a = none ∧ u = .frz { cls := .type "list", data := .seq us.toArray } (.lst (ns.map V.int)) := fun b u e => by
    rw [← hH] at e
    exact scrH_no e
  have dictFree : ∀ {b : Addr} {o : Obj} {es : Array DictEntry} {ep : Nat}, st.heap.get? b = some o → o.data = .dict es ep → H b = none := by
    intro b o es ep e d
    cases q : H b with
    | none => rfl
    | some u =>
      obtain ⟨rfl, _, _⟩ := known b u q
      rw [la] at e
      cases e
      exact absurd (show Data.seq us.toArray _ = Data.dict es ep from d) (by intro z; cases z)
  have goNs : ∀ {b : Addr} {m : Str → Option Value}, st.heap.Ns b m → (hidT st.heap H).Ns b m := by
    rintro b m ⟨o, es, ep, e, d, r⟩
    exact ⟨o, es, ep, hidT_get e (dictFree e d), d, r⟩
  have KB : c.K.In (hidT st.heap H) := fun b o e => hidT_get (KI b o e) (by rw [← hH]; exact scrH_free e)
  have okH : HOk P w H st.heap := by
    intro b u e
    obtain ⟨rfl, _, rfl⟩ := known b u e
    exact ⟨la, by rw [List.length_map]; exact small, us, _, rel, la⟩
  have env : Env0 P w c.K mg (hidT st.heap H) callerA [] st H :=
    { frames := rfl, mod := ⟨KB, goNs gl, ⟨mb, goNs bi, bb⟩, nl.imp fun m q => ⟨goNs q.1, q.2⟩⟩, bs := fun b o e => of_hidT e, bsz := Nat.le_of_eq (hidT_size _ _), funs := trivial, frf := (fun b hb => by cases hb), hok := okH, bare := .of_eq ng }
  have seq : SqF c.K H a (ns.map V.int) := by
    cases hk : c.K.lookup a with
    | none =>
      refine .inl ⟨{ cls := .type "list", data := .seq us.toArray }, ?_⟩
      rw [← hH]
      exact if_pos ⟨rfl, by rw [hk]; rfl⟩
    | some o =>
      have e := KI a o hk
      rw [la] at e
      cases e
      exact .inr ⟨_, us.toArray, _, hk, rfl, rfl, rfl, by rw [List.size_toArray, le]; exact small, by simpa using rel⟩
  have run := (F _ KB (goNs gl)).run callerA [] st H ⟨[.ref a], []⟩ [.ref a] [.ref a] _ _ rm rfl env (bd st (.ref a)) (.cons rfl .nil) (ask H seq)
  refine codeAny_mono run fun r t q => ?_
  match r, q with
  | .error e, q =>
    obtain ⟨_, _, _, _, _, _, _, _, _, _, _, no⟩ := q
    exact no.2.elim
  | .ok .next, q => exact q.elim
  | .ok .brk, q => exact q.elim
  | .ok .cont, q => exact q.elim
  | .ok (.ret u), ⟨v, H', os, bare, un, ok', rv, qv⟩ =>
    have qv : v = .bl true := qv
    subst qv
    have hu : u = Value.bool true := rv
    subst hu
    refine ⟨rfl, OldK.of_keep fun b o e => ?_, os, bare⟩
    cases q : H b with
    | none => exact un.keep b o e q (fun z => by cases z) (fun z => by cases z)
    | some y =>
      obtain ⟨rfl, _, rfl⟩ := known b y q
      have f := un.frzs b _ _ q
      rw [la] at e
      cases e
      exact (ok' b _ f).1
/-- the goal that the head leaves -/
theorem end_walk {l : PySem.W.OpenLaw} {n k : Nat} {q : Program} {loose : List Str} {XP : (Str → Option Value) → Heap → Prop} {YP : World → Heap → Prop} {d : DefRec} {K : Params → PySem.W.Frag} {x : Str}
    (most : l.most = some n) (few : n ≤ sizeLine) (plain : d.params.defaults = []) (rm : Room k callerA) (hY : ∀ (w : World) (h : Heap), YP w h → (K w.params).In h)
    (F : ∀ (w : World) (mg : Str → Option Value) (fa : Addr) (h : Heap), (K w.params).In h → h.Ns mainGlobals mg → mg d.name = some (.ref fa) →
      ∃ (c : Kx) (fd : FuncData) (S : Spc), c.K = K w.params ∧ (∀ (s : Shared) (u : Value), BindsTo s fd ⟨[u], []⟩ [(x, u)]) ∧
        (∀ base : Heap, (K w.params).In base → base.Ns mainGlobals mg → FnG l.prog w (K w.params) mg base k fa fd [x] (spOf c S)) ∧
        ∀ ns : List Int, ns.length ≤ n → S [.fz (ns.map D.int)] [] (fun d _ _ => d = .bl true) fun _ _ _ => False) :
    PySem.W.WalkO q loose XP YP l.row.toRowW d [] (fun f vs => PySem.call f vs) := by
  refine Att.attach_call most plain ?_
  intro w s₀ st mg mb fa o pm cd doc a us ns G Y ho hd hcd hm hobj iv hl hg
  have KI := hY w _ Y
  obtain ⟨c, fd, S, hc, bd, hF, hS⟩ := F w mg fa _ KI G.T.g hm
  refine end_call (c := c) (by rw [hc]; exact KI) G.T.g G.T.b G.T.builtins G.T.nolimit hg hobj iv (Nat.le_trans hl few) rm (fun base h1 h2 => by rw [hc] at h1 ⊢; exact hF base h1 h2) bd fun H sq => ?_
  have rp : RpA c.toKn none H [.ref a] [.fz (ns.map D.int)] [] := by
    refine RpA.one (.lsf sq ?_)
    clear sq
    clear iv hl
    induction ns with
    | nil => exact .nil
    | cons i ns ih => exact .cons (.int i) ih
  refine ⟨none, [], _, [], _, _, rp, (fun b e => by cases e), hS ns hl, ?_, fun _ _ _ e => e.elim⟩
  rintro d fr w' rfl v nn H' r _ _ _ _ _
  cases r
  rfl
end Ev

set_option Elab.async false
set_option linter.all false
set_option maxRecDepth 100000
set_option maxHeartbeats 8000000
/-! # Ew: reasoning over readings: loops, comprehensions, pure trees -/
namespace Ev
open PySem PySem.Spec PyProof.Rows L2

theorem pureAll_iff : ∀ {l : List D}, pureAll l = true ↔ ∀ d ∈ l, d.pure = true
  | [] => by simp [pureAll]
  | d :: l => by simp [pureAll, pureAll_iff (l := l)]
theorem pureAll_map {α : Type} {f : α → D} (h : ∀ a, (f a).pure = true) (l : List α) : pureAll (l.map f) = true := pureAll_iff.mpr fun d hd => by
  obtain ⟨a, _, rfl⟩ := List.mem_map.mp hd
  exact h a
theorem pureAll_rng (lo : Int) (n : Nat) : pureAll (rngD lo n) = true := pureAll_map (fun _ => rfl) _
theorem frp_pure {d : D} (h : d.pure = true) : frp d = 2 := by unfold frp; rw [if_pos h]
theorem fr_pure {d : D} {n : Nat} (h : d.pure = true) : (if d.pure = true then 2 else n) = 2 := if_pos h

/-! ### loops -/
theorem forS_inv {f : D → Slots → Wl → Po → Prop} {P : Po} (I : Nat → Slots → Wl → Prop) : ∀ {xs : List D} {ρ : Slots} {w : Wl} {j : Nat}, I j ρ w →
    (∀ (i : Nat) (x : D) (ρ : Slots) (w : Wl) (N : Slots → Wl → Prop), xs[i]? = some x → I (j + i) ρ w → (∀ ρ' w', I (j + i + 1) ρ' w' → N ρ' w') → f x ρ w { P with nx := N, ct := N, bk := P.nx }) →
    (∀ ρ w, I (j + xs.length) ρ w → P.nx ρ w) → forS f P xs ρ w
  | [], ρ, w, j, h0, _, hd => by
    unfold forS
    exact hd ρ w (by simpa using h0)
  | x :: xs, ρ, w, j, h0, hs, hd => by
    unfold forS
    refine hs 0 x ρ w _ rfl h0 fun ρ' w' h' => ?_
    refine forS_inv I (j := j + 1) h' (fun i y ρ w N hy hi hn => ?_) fun ρ w h => hd ρ w (by simpa [Nat.add_assoc, Nat.add_comm 1] using h)
    exact hs (i + 1) y ρ w N (by simpa using hy) (by simpa [Nat.add_assoc, Nat.add_comm 1] using hi) fun ρ' w' h => hn ρ' w' (by simpa [Nat.add_assoc, Nat.add_comm 1] using h)
/-- from the first item -/
theorem forS_from {f : D → Slots → Wl → Po → Prop} {P : Po} {xs : List D} {ρ : Slots} {w : Wl} (I : Nat → Slots → Wl → Prop) (h0 : I 0 ρ w)
    (hs : ∀ (i : Nat) (x : D) (ρ : Slots) (w : Wl) (N : Slots → Wl → Prop), xs[i]? = some x → I i ρ w → (∀ ρ' w', I (i + 1) ρ' w' → N ρ' w') → f x ρ w { P with nx := N, ct := N, bk := P.nx }) (hd : ∀ ρ w, I xs.length ρ w → P.nx ρ w) : forS f P xs ρ w :=
  forS_inv I h0 (fun i x ρ w N h1 h2 h3 => hs i x ρ w N h1 (by simpa using h2) fun ρ' w' h => h3 ρ' w' (by simpa using h)) fun ρ w h => hd ρ w (by simpa using h)
theorem turns_inv {f : D → List D → Nat → Wl → KA → Prop} {k : KA} (I : Nat → List D → Nat → Wl → Prop) : ∀ {xs acc : List D} {fr : Nat} {w : Wl} {j : Nat}, I j acc fr w →
    (∀ (i : Nat) (x : D) (acc : List D) (fr : Nat) (w : Wl) (N : KA), xs[i]? = some x → I (j + i) acc fr w → (∀ acc' fr' w', I (j + i + 1) acc' fr' w' → N acc' fr' w') → f x acc fr w N) →
    (∀ acc fr w, I (j + xs.length) acc fr w → k acc fr w) → turns f xs acc fr w k
  | [], acc, fr, w, j, h0, _, hd => by
    unfold turns
    exact hd acc fr w (by simpa using h0)
  | x :: xs, acc, fr, w, j, h0, hs, hd => by
    unfold turns
    refine hs 0 x acc fr w _ rfl h0 fun acc' fr' w' h' => ?_
    refine turns_inv I (j := j + 1) h' (fun i y acc fr w N hy hi hn => ?_) fun acc fr w h => hd acc fr w (by simpa [Nat.add_assoc, Nat.add_comm 1] using h)
    exact hs (i + 1) y acc fr w N (by simpa using hy) (by simpa [Nat.add_assoc, Nat.add_comm 1] using hi) fun acc' fr' w' h => hn acc' fr' w' (by simpa [Nat.add_assoc, Nat.add_comm 1] using h)
/-- every item gives one item -/
theorem turns_map {f : D → List D → Nat → Wl → KA → Prop} {k : KA} {w : Wl} {g : D → D} {xs : List D} (hn : xs.length ≤ 1000000)
    (hs : ∀ (i : Nat) (x : D) (acc : List D) (N : KA), xs[i]? = some x → acc.length < 1000000 → N (acc ++ [g x]) 2 w → f x acc 2 w N) (hd : k (xs.map g) 2 w) : turns f xs [] 2 w k := by
  refine turns_inv (fun i acc fr w' => acc = (xs.take i).map g ∧ fr = 2 ∧ w' = w ∧ i ≤ xs.length) (j := 0) ⟨by simp, rfl, rfl, Nat.zero_le _⟩ ?_ ?_
  · rintro i x acc fr w' N hx ⟨rfl, rfl, rfl, hi⟩ hN
    have hl := (List.getElem?_eq_some_iff.mp hx).1
    simp only [Nat.zero_add] at *
    refine hs i x _ N hx (by simp; omega) (hN _ _ _ ⟨?_, rfl, rfl, hl⟩)
    rw [List.take_add_one, hx]
    simp
  · rintro acc fr w' ⟨rfl, rfl, rfl, _⟩
    simpa using hd
/-- some items give one item each -/
theorem turns_filter {f : D → List D → Nat → Wl → KA → Prop} {k : KA} {w : Wl} {g : D → D} {p : D → Bool} {xs : List D} (hn : xs.length ≤ 1000000)
    (hs : ∀ (i : Nat) (x : D) (acc : List D) (N : KA), xs[i]? = some x → acc.length < 1000000 → (if p x = true then N (acc ++ [g x]) 2 w else N acc 2 w) → f x acc 2 w N) (hd : k ((xs.filter p).map g) 2 w) : turns f xs [] 2 w k := by
  refine turns_inv (fun i acc fr w' => acc = ((xs.take i).filter p).map g ∧ fr = 2 ∧ w' = w ∧ i ≤ xs.length) (j := 0) ⟨by simp, rfl, rfl, Nat.zero_le _⟩ ?_ ?_
  · rintro i x acc fr w' N hx ⟨rfl, rfl, rfl, hi⟩ hN
    have hl := (List.getElem?_eq_some_iff.mp hx).1
    simp only [Nat.zero_add] at *
    have e : (xs.take (i + 1)).filter p = (xs.take i).filter p ++ (if p x = true then [x] else []) := by
      rw [List.take_add_one, hx, List.filter_append]
      congr 1
      simp [List.filter_cons]
    refine hs i x _ N hx ?_ ?_
    · rw [List.length_map]
      refine Nat.lt_of_le_of_lt (List.length_filter_le _ _) ?_
      simp; omega
    · by_cases q : p x = true
      · rw [if_pos q]
        refine hN _ _ _ ⟨?_, rfl, rfl, hl⟩
        rw [e, if_pos q]; simp
      · rw [if_neg q]
        refine hN _ _ _ ⟨?_, rfl, rfl, hl⟩
        rw [e, if_neg q]; simp
  · rintro acc fr w' ⟨rfl, rfl, rfl, _⟩
    simpa using hd
/-- over encoded items: every item gives one -/
theorem turns_on {α : Type} {F : D → List D → Nat → Wl → KA → Prop} {k : KA} {w : Wl} {f h : α → D} {l : List α} (hn : l.length ≤ 1000000)
    (hs : ∀ a, a ∈ l → ∀ (acc : List D) (N : KA), acc.length < 1000000 → N (acc ++ [h a]) 2 w → F (f a) acc 2 w N) (hd : k (l.map h) 2 w) : turns F (l.map f) [] 2 w k := by
  refine turns_inv (fun i acc fr w' => acc = (l.take i).map h ∧ fr = 2 ∧ w' = w ∧ i ≤ l.length) (j := 0) ⟨by simp, rfl, rfl, Nat.zero_le _⟩ ?_ ?_
  · rintro i x acc fr w' N hx ⟨rfl, rfl, rfl, hi⟩ hN
    rw [List.getElem?_map] at hx
    cases e : l[i]? with
    | none => rw [e] at hx; cases hx
    | some a =>
      rw [e] at hx
      cases hx
      have hl := (List.getElem?_eq_some_iff.mp e).1
      simp only [Nat.zero_add] at *
      refine hs a (List.mem_of_getElem? e) _ N (by simp; omega) (hN _ _ _ ⟨?_, rfl, rfl, hl⟩)
      rw [List.take_add_one, e]
      simp
  · rintro acc fr w' ⟨rfl, rfl, rfl, _⟩
    simpa using hd
theorem turns_rng {F : D → List D → Nat → Wl → KA → Prop} {k : KA} {w : Wl} {lo : Int} {n : Nat} {h : Nat → D} (hn : n ≤ 1000000)
    (hs : ∀ i, i < n → ∀ (acc : List D) (N : KA), acc.length < 1000000 → N (acc ++ [h i]) 2 w → F (.int (lo + (i : Nat))) acc 2 w N) (hd : k ((List.range n).map h) 2 w) : turns F (rngD lo n) [] 2 w k :=
  turns_on (l := List.range n) (by simpa using hn) (fun i hi => hs i (List.mem_range.mp hi)) hd
theorem whl_inv {c : Slots → Wl → (Bool → Wl → Prop) → Prop} {f : Slots → Wl → Po → Prop} {P : Po} {ρ : Slots} {w : Wl} (I : Nat → Slots → Wl → Prop) {m : Nat} (h0 : I m ρ w)
    (hs : ∀ m ρ w (N : Slots → Wl → Prop), I m ρ w → (∀ m' ρ' w', m' < m → I m' ρ' w' → N ρ' w') → c ρ w fun b w1 => if b = true then f ρ w1 { P with nx := N, ct := N, bk := P.nx } else P.nx ρ w1) : ∃ n, whlS c f P n ρ w := by
  have : ∀ (n m : Nat) (ρ : Slots) (w : Wl), I m ρ w → m < n → whlS c f P n ρ w := by
    intro n
    induction n with
    | zero => intro m ρ w _ h; omega
    | succ n ih =>
      intro m ρ w h hm
      unfold whlS
      exact hs m ρ w _ h fun m' ρ' w' hl h' => ih m' ρ' w' h' (by omega)
  exact ⟨m + 1, this (m + 1) m ρ w h0 (Nat.lt_succ_self _)⟩

/-! ### lists of truths; the last item -/
theorem blsOf_rep {α : Type} : ∀ l : List α, blsOf (l.map fun _ => D.bl true) = some (List.replicate l.length true)
  | [] => rfl
  | _ :: l => by
    show (blsOf (l.map fun _ => D.bl true)).map (true :: ·) = _
    rw [blsOf_rep l]
    rfl
theorem all_rep {α : Type} {l : List α} {k : Bool → Prop} (h : k true) : ∃ bs, blsOf (l.map fun _ => D.bl true) = some bs ∧ k (bs.all id) := by
  refine ⟨_, blsOf_rep l, ?_⟩
  have : (List.replicate l.length true).all id = true := by simp
  rw [this]
  exact h
theorem at0 {α : Type} {x : α} {xs : List α} : atI (x :: xs) 0 = some x := atI_nat (j := 0) rfl
theorem at1 {α : Type} {x y : α} {xs : List α} : atI (x :: y :: xs) 1 = some y := atI_nat (j := 1) rfl
theorem at2 {α : Type} {x y z : α} {xs : List α} : atI (x :: y :: z :: xs) 2 = some z := atI_nat (j := 2) rfl
theorem eqD_int {i j : Int} : eqD (.int i) (.int j) = decide (i = j) := by
  unfold eqD
  simp only [D.py, PyData.eqv]
  exact rfl
theorem ok_int {i : Int} : (D.int i).dat = true ∧ (D.int i).dep ≤ 60 := ⟨rfl, Nat.zero_le _⟩
theorem ok_nil : (D.tup []).dat = true ∧ (D.tup []).dep ≤ 60 := ⟨rfl, by simp [D.dep, depAll]⟩
theorem eq_nil0 : eqD (.tup []) (.tup []) = true := rfl
theorem eq_nil1 {x : D} {xs : List D} : eqD (.tup (x :: xs)) (.tup []) = false := rfl
theorem ixN_at {n j : Nat} (h : j < n) : ixN n (j : Int) = some j := by
  unfold ixN
  rw [if_pos (by omega), if_pos (by omega), Int.toNat_natCast]
theorem atI_neg1 {α : Type} {xs : List α} {x : α} (h : xs.getLast? = some x) : atI xs (-1) = some x := by
  obtain ⟨ys, rfl⟩ := List.getLast?_eq_some_iff.mp h
  exact atI_last ys x
theorem datAll_iff : ∀ {l : List D}, datAll l = true ↔ ∀ d ∈ l, d.dat = true
  | [] => by simp [datAll]
  | d :: l => by simp [datAll, datAll_iff (l := l)]
theorem depAll_le {n : Nat} : ∀ {l : List D}, (∀ d ∈ l, d.dep ≤ n) → depAll l ≤ n
  | [], _ => by simp [depAll]
  | d :: l, h => by
    unfold depAll
    have h1 := h d (by simp)
    have h2 := depAll_le fun x hx => h x (List.mem_cons_of_mem _ hx)
    omega
theorem sgnAll_le {n : Nat} : ∀ {l : List D}, (∀ d ∈ l, d.sgn ≤ n) → sgnAll l ≤ l.length * (n + 2)
  | [], _ => by simp [sgnAll]
  | d :: l, h => by
    unfold sgnAll
    have h1 := h d (by simp)
    have h2 := sgnAll_le fun x hx => h x (List.mem_cons_of_mem _ hx)
    rw [List.length_cons, Nat.add_mul]
    omega

/-! ### what a walk gives -/
theorem zipD_of {as bs : List D} {i : Nat} {x : D} (h : (zipD as bs)[i]? = some x) : ∃ a b, as[i]? = some a ∧ bs[i]? = some b ∧ x = .tup [a, b] := by
  have hl := (List.getElem?_eq_some_iff.mp h).1
  rw [zipD_length] at hl
  have ha : as[i]? = some as[i] := List.getElem?_eq_getElem (by omega)
  have hb : bs[i]? = some bs[i] := List.getElem?_eq_getElem (by omega)
  rw [zipD_get ha hb] at h
  exact ⟨_, _, ha, hb, (Option.some.inj h).symm⟩
theorem enuD_of {as : List D} {i : Nat} {x : D} (h : (enuD as)[i]? = some x) : ∃ a, as[i]? = some a ∧ x = .tup [.int (i : Nat), a] := by
  have hl := (List.getElem?_eq_some_iff.mp h).1
  rw [enuD_length] at hl
  have ha : as[i]? = some as[i] := List.getElem?_eq_getElem (by omega)
  rw [enuD_get ha] at h
  exact ⟨_, ha, (Option.some.inj h).symm⟩
theorem rngD_of {lo : Int} {n i : Nat} {x : D} (h : (rngD lo n)[i]? = some x) : i < n ∧ x = .int (lo + (i : Nat)) := by
  have hl := (List.getElem?_eq_some_iff.mp h).1
  rw [rngD_length] at hl
  refine ⟨hl, ?_⟩
  unfold rngD at h
  rw [List.getElem?_map, List.getElem?_range hl] at h
  exact (Option.some.inj h).symm
theorem map_of {α : Type} {f : α → D} {l : List α} {i : Nat} {x : D} (h : (l.map f)[i]? = some x) : ∃ a, l[i]? = some a ∧ x = f a := by
  rw [List.getElem?_map] at h
  cases e : l[i]? with
  | none => rw [e] at h; cases h
  | some a => rw [e] at h; exact ⟨a, rfl, (Option.some.inj h).symm⟩
theorem drop_of {α : Type} {l : List α} {i : Nat} {a : α} (h : l[i]? = some a) : l.drop i = a :: l.drop (i + 1) := by
  obtain ⟨hl, e⟩ := List.getElem?_eq_some_iff.mp h
  rw [List.drop_eq_getElem_cons hl, e]
theorem atI_add {α : Type} {xs : List α} {a b : Nat} {x : α} (h : xs[a + b]? = some x) : atI xs ((a : Int) + (b : Nat)) = some x := by
  have : ((a : Int) + (b : Nat)) = ((a + b : Nat) : Int) := by omega
  rw [this]
  exact atI_nat h

/-! ### slots of a known list -/
theorem asI_int {i : Int} {k : Int → Prop} (h : k i) : asI (.int i) k := h
theorem asB_bl {b : Bool} {k : Bool → Prop} (h : k b) : asB (.bl b) k := h

/-! ### one def more -/
section
variable {P : Program} {w : World} {c : Kx} {mg : Str → Option Value} {base : Heap} {T : Tab} {names : List Str}
/-- the defs below n stand, with their contracts -/
def Upto (names : List Str) (c : Kx) (T : Tab) (P : Program) (w : World) (mg : Str → Option Value) (base : Heap) (n : Nat) : Prop :=
  ∀ g x, g < n → names[g]? = some x → ∀ X : Cx, X.prog = P → X.w = w → X.K = c.K → X.mg = mg → X.base = base → HasFn c X n x g (T.fn g)
theorem Upto.zero : Upto names c T P w mg base 0 := fun g x h => absurd h (Nat.not_lt_zero g)
theorem HasFn.lift {X : Cx} {j k g : Nat} {x : Str} {S : Spc} (h : HasFn c X j x g S) (l : j ≤ k) : HasFn c X k x g S :=
  { ex := by
      obtain ⟨fd, ps, G, b⟩ := h.ex
      exact ⟨fd, ps, G.mono l, b⟩
    kp := h.kp, mg := h.mg, db := h.db }
theorem Upto.succ {n : Nat} {x : Str} {fd : FuncData} {ps : List Str} (U : Upto names c T P w mg base n) (hx : names[n]? = some x) (G : FnG P w c.K mg base (n + 1) (c.fa n) fd ps (spOf c (T.fn n))) (hb : Binds c.K fd ps []) (kp : PySem.W.keepIn c.K (.ref (c.fa n)) = true) (hm : mg x = some (.ref (c.fa n)))
    (db : (x == ("__debug__" : Str)) = false) : Upto names c T P w mg base (n + 1) := by
  intro g y hg hy X h1 h2 h3 h4 h5
  by_cases e : g = n
  · subst e
    rw [hx] at hy
    cases hy
    subst h1 h2 h4 h5
    exact { ex := ⟨fd, ps, by rw [h3]; exact G, by rw [h3]; exact hb⟩, kp := by rw [h3]; exact kp, mg := hm, db := db }
  · exact (U g y (by omega) hy X h1 h2 h3 h4 h5).lift (Nat.le_succ _)
/-- the table at def n: what may be called as a value stands below n -/
def Tab.at (T : Tab) (n : Nat) : Tab := { T with cv := fun g => decide (g < n) && T.cv g }
theorem at_fn {T : Tab} {n g : Nat} : (T.at n).fn g = T.fn g := rfl
theorem at_kw {T : Tab} {n g : Nat} : (T.at n).kw g = T.kw g := rfl
theorem at_cs {T : Tab} {n g : Nat} : (T.at n).cs g = T.cs g := rfl
/-- calls with keywords, of defs below n -/
def UptoK (kss : List (Str × List Str)) (kwi : List Nat) (c : Kx) (T : Tab) (P : Program) (w : World) (mg : Str → Option Value) (base : Heap) (n : Nat) : Prop :=
  ∀ m x kn g, kss[m]? = some (x, kn) → kwi[m]? = some g → g < n → ∀ X : Cx, X.prog = P → X.w = w → X.K = c.K → X.mg = mg → X.base = base → HasKw c X n x kn (T.kw m)
theorem UptoK.zero {kss : List (Str × List Str)} {kwi : List Nat} : UptoK kss kwi c T P w mg base 0 := fun m x kn g _ _ h => absurd h (Nat.not_lt_zero g)
theorem HasKw.lift {X : Cx} {j k : Nat} {x : Str} {kn : List Str} {S : Spc2} (h : HasKw c X j x kn S) (l : j ≤ k) : HasKw c X k x kn S :=
  { ex := by
      obtain ⟨f, fd, ps, S', g, gV, gD, G, r⟩ := h.ex
      exact ⟨f, fd, ps, S', g, gV, gD, G.mono l, r⟩
    db := h.db }
theorem UptoK.succ {kss : List (Str × List Str)} {kwi : List Nat} {n : Nat} (U : UptoK kss kwi c T P w mg base n)
    (h : ∀ m x kn, kss[m]? = some (x, kn) → kwi[m]? = some n → ∀ X : Cx, X.prog = P → X.w = w → X.K = c.K → X.mg = mg → X.base = base → HasKw c X (n + 1) x kn (T.kw m)) : UptoK kss kwi c T P w mg base (n + 1) := by
  intro m x kn g h1 h2 h3 X e1 e2 e3 e4 e5
  by_cases e : g = n
  · subst e
    exact h m x kn h1 h2 X e1 e2 e3 e4 e5
  · exact (U m x kn g h1 h2 (by omega) X e1 e2 e3 e4 e5).lift (Nat.le_succ _)
/-- a call with keywords of a def that stands -/
theorem kw_pick {n g : Nat} {x : Str} {fd : FuncData} {ps kn : List Str} {m1 m2 : Nat} {pm : List Nat} {S : Spc} {S2 : Spc2} (G : FnG P w c.K mg base (n + 1) (c.fa n) fd ps (spOf c S)) (hp : 0 < ps.length) (kp : PySem.W.keepIn c.K (.ref (c.fa n)) = true) (hm : mg x = some (.ref (c.fa n))) (db : (x == ("__debug__" : Str)) = false)
    (hb : ∀ us ws : List Value, us.length = m1 → ws.length = m2 → bindArgs fd ⟨us, kn.zip ws⟩ = pure (ps.zip (pick m1 m2 pm us ws))) (hS : ∀ ds es w K E, S2 ds es w K E → S (pick m1 m2 pm ds es) w K E) :
    ∀ X : Cx, X.prog = P → X.w = w → X.K = c.K → X.mg = mg → X.base = base → HasKw c X (n + 1) x kn S2 := by
  intro X h1 h2 h3 h4 h5
  subst h1 h2 h4 h5
  exact { ex := ⟨c.fa n, fd, ps, S, pick m1 m2 pm, pick m1 m2 pm, pick m1 m2 pm, by rw [h3]; exact G, by rw [h3]; exact kbinds_pick hp hb, hm, by rw [h3]; exact kp, fun ds es w K E h => ⟨hS ds es w K E h, fun Wo H vs us n1 n2 r1 r2 => pick_rp r1 r2⟩⟩, db := db }
/-- what stands at def n -/
theorem Sx.of {cc : CC} {kss : List (Str × List Str)} {kwi : List Nat} {n j : Nat} (U : Upto names c T P w mg base n) (UK : UptoK kss kwi c T P w mg base n) (hn : n ≤ names.length) (hf : cc.fs = names.take n) (hk : cc.ks = kss.take j) (hl : kss.length = kwi.length) (hj : ∀ m g, m < j → kwi[m]? = some g → g < n)
    (cst : ∀ m x, cc.cs[m]? = some x → ∃ u v, mg x = some u ∧ RelV v u ∧ (x == ("__debug__" : Str)) = false ∧ (T.cs m).pure = true ∧ ∀ H, Rp c.toKn none H v (T.cs m) []) (bl : ∀ x ∈ cc.bl, mg x = none) (gcd : cc.gcd = true → mg "gcd" = some (.builtin "math.gcd"))
    (rm : cc.es ≠ [] → 2 ≤ n) (er : ∀ g x b, cc.es[g]? = some (x, b) → ∀ X : Cx, X.prog = P → X.w = w → X.K = c.K → X.mg = mg → X.base = base → HasEr c X x g b)
    (exm : ∀ g h y b, T.er g = true → cc.es[h]? = some (y, b) → PySem.W.exmOne c.K (.ref (c.ca g)) (.ref (c.ca h)) = some (T.sub g h)) (fl : ∀ g, T.er g = true → c.fld g = T.fl g)
    (kit : ∀ g h y b, T.er g = true → cc.es[h]? = some (y, b) → PySem.W.kitOne c.K (.ref (c.ca g)) (.ref (c.ca h)) = some (T.sub g h)) (eb : cc.es ≠ [] → ∀ g, T.er g = true → ∃ x b, cc.es[g]? = some (x, b)) :
    Sx cc c (T.at n) n P w mg base where
  fn g x h X h1 h2 h3 h4 h5 := by
    rw [hf, List.getElem?_take] at h
    split at h
    · rename_i hg
      exact U g x hg h X h1 h2 h3 h4 h5
    · cases h
  kw m x kn h X h1 h2 h3 h4 h5 := by
    rw [hk, List.getElem?_take] at h
    split at h
    · rename_i hm
      have hml : m < kwi.length := by
        rw [← hl]
        exact (List.getElem?_eq_some_iff.mp h).1
      exact UK m x kn kwi[m] h (List.getElem?_eq_getElem hml) (hj m _ hm (List.getElem?_eq_getElem hml)) X h1 h2 h3 h4 h5
    · cases h
  cv g h X h1 h2 h3 h4 h5 := by
    unfold Tab.at at h
    simp only [Bool.and_eq_true, decide_eq_true_eq] at h
    exact (U g names[g] h.1 (List.getElem?_eq_getElem (by omega)) X h1 h2 h3 h4 h5).toHasV
  cst := cst
  bl := bl
  gcd := gcd
  rm := rm
  er := er
  exm := exm
  fl := fl
  kit := kit
  eb := eb
/-- an error without __init__ -/
theorem er_bare {X : Cx} {x : Str} {g : Nat} {bm : List Value} {B nw ini : String} (F : ExcBaseFacts B nw ini bm) (hm : X.mg x = some (.ref (c.ca g))) (db : (x == ("__debug__" : Str)) = false) (h1 : PySem.W.excIn X.K (c.ca g) bm nw = true) (h2 : PySem.W.keepIn X.K (.ref (c.ca g)) = true)
    (h3 : PySem.W.subIn X.K (.ref (c.ca g)) (.type "BaseException") = some true) (h4 : PySem.W.typeIn X.K (.ref (c.ca g)) = some (.type "type")) (h5 : ExcC X.K (c.ca g)) (h6 : XfC X.K (c.ca g) ∧ PySem.W.findIn X.K (.ref (c.ca g)) (c.fld g) = some none) : HasEr c X x g false :=
  { mg := hm, db := db, isa := fun _ => h5, xf := h6, bare := fun _ => ⟨bm, B, nw, ini, F, h1, h2, raises_own h3 h4⟩, one := fun q => by cases q }
end
/-- __init__ that keeps its one argument -/
theorem init_one {P : Program} {w : World} {K : PySem.W.Frag} {mg : Str → Option Value} {base : Heap} {C f : Addr} {fld slf arg qual x : Str} {params : Arguments} {body : List Stmt} {scope : Scope} {dV kV doc pm cdv ct oc : Value} {an od : Option Addr} {osl : Array (Option Value)} {p1 p2 p3 p4 : Pos}
    (lk : K.lookup f = some ⟨oc, od, .func (PySem.W.fnOf x qual params body scope dV kV doc pm an cdv ct), osl⟩) (hcd : PySem.W.codeIn K cdv qual = true) (S : FnScope [slf, arg] [slf, arg] scope)
    (hb : body = [.Assign [.Attribute (.Name slf p1) fld p2] (.Name arg p3) p4]) (l1 : scope.names.lookup slf = some .local) (l2 : scope.names.lookup arg = some .local)
    (d1 : (slf == ("__debug__" : Str)) = false) (d2 : (slf == ("__classdict__" : Str)) = false) (d3 : (arg == ("__debug__" : Str)) = false) (d4 : (arg == ("__classdict__" : Str)) = false)
    (T : OexC K C) (hno : PySem.W.findIn K (.ref C) fld = some none) :
    FnOk P w K mg base CX0 1 f (PySem.W.fnOf x qual params body scope dV kV doc pm an cdv ct) [slf, arg] (spInit C fld) := by
  subst hb
  refine fn_of (k := 0) lk hcd S (fun vs H Q E h => ?_) fun A outer s H vs Q E hr h => ?_
  · obtain ⟨a, y, rfl, _⟩ := h
    rfl
  · obtain ⟨a, y, rfl, ha, q⟩ := h
    exact ⟨_, pss_one (ps_ost (pe_var (i := 0) rfl (.inl l1) d1 d2) (pe_var (i := 1) rfl (.inl l2) d3 d4)), y, rfl, .ref a, rfl, a, C, rfl, T, hno, .inl ⟨ha, fun dx nd ne => q dx nd ne⟩⟩
section
variable {c : Kx}
theorem er_one {X : Cx} {x : Str} {g : Nat} {fI : Addr} {fd : FuncData} {ps : List Str} (hm : X.mg x = some (.ref (c.ca g))) (db : (x == ("__debug__" : Str)) = false) (T : OexC X.K (c.ca g)) (iC : PySem.W.findIn X.K (.ref (c.ca g)) "__init__" = some (some (.ref fI)))
    (tI : PySem.W.typeIn X.K (.ref fI) = some (.type "function")) (F : FnOk X.prog X.w X.K X.mg X.base CX0 1 fI fd ps (spInit (c.ca g) (c.fld g))) (b : Binds X.K fd ps []) (h6 : XfC X.K (c.ca g) ∧ PySem.W.findIn X.K (.ref (c.ca g)) (c.fld g) = some none) : HasEr c X x g true :=
  { mg := hm, db := db, isa := fun q => (by cases q), xf := h6, bare := fun q => (by cases q), one := fun _ => ⟨T, fI, fd, ps, iC, tI, F, b⟩ }
end
end Ev

set_option Elab.async false
set_option linter.all false
set_option maxRecDepth 100000
set_option maxHeartbeats 8000000
/-! # Er: fractions -/
namespace Ev
open PySem PySem.Spec PyProof.Rows L2

/-- a fraction as the program keeps it -/
def ofQ (q : Rat) : D := .tup [.int q.num, .int q.den]
theorem ofQ_pure (q : Rat) : (ofQ q).pure = true := rfl
theorem ofQ_inj {p q : Rat} (h : ofQ p = ofQ q) : p = q := by
  unfold ofQ at h
  simp only [D.tup.injEq, List.cons.injEq, D.int.injEq, and_true] at h
  exact Rat.ext h.1 (by have := h.2; omega)
theorem mk_parts {n : Int} {d : Nat} (hd : d ≠ 0) : (mkRat n d).num = n / ((n.natAbs.gcd d : Nat) : Int) ∧ (mkRat n d).den = d / n.natAbs.gcd d := by
  rw [Rat.mkRat_def, dif_neg hd, Rat.normalize_eq]
  exact ⟨rfl, rfl⟩
/-- the pair of two quotients by the greatest divisor -/
theorem mk_pair {n : Int} {d : Nat} (hd : d ≠ 0) : D.tup [.int (n / ((n.natAbs.gcd d : Nat) : Int)), .int ((d : Int) / ((n.natAbs.gcd d : Nat) : Int))] = ofQ (mkRat n d) := by
  obtain ⟨h1, h2⟩ := mk_parts (n := n) hd
  unfold ofQ
  rw [h1, h2, Int.natCast_ediv]
/-- what may be reckoned with -/
def Bd (q : Rat) : Prop := q.num.natAbs < 2 ^ 1500 ∧ q.den < 2 ^ 1500
/-- a fraction with the denominator M, at most v -/
def Sz (M v : Nat) (q : Rat) : Prop := ∃ A : Int, q = mkRat A M ∧ A.natAbs ≤ v * M
theorem Sz.mono {M v u : Nat} {q : Rat} (h : Sz M v q) (l : v ≤ u) : Sz M u q := by
  obtain ⟨A, h1, h2⟩ := h
  exact ⟨A, h1, Nat.le_trans h2 (Nat.mul_le_mul_right M l)⟩
theorem Sz.up {M v k : Nat} {q : Rat} (h : Sz M v q) (hk : k ≠ 0) : Sz (M * k) v q := by
  obtain ⟨A, h1, h2⟩ := h
  refine ⟨A * k, ?_, ?_⟩
  · rw [h1, Rat.mkRat_mul_right hk]
  · rw [Int.natAbs_mul, Int.natAbs_natCast, ← Nat.mul_assoc]
    exact Nat.mul_le_mul_right k h2
theorem Sz.add {M v u : Nat} {p q : Rat} (hM : M ≠ 0) (h : Sz M v p) (g : Sz M u q) : Sz M (v + u) (p + q) := by
  obtain ⟨A, h1, h2⟩ := h
  obtain ⟨B, g1, g2⟩ := g
  refine ⟨A + B, ?_, ?_⟩
  · rw [h1, g1, Rat.mkRat_add_mkRat _ _ hM hM, ← Int.add_mul, Rat.mkRat_mul_right hM]
  · rw [Nat.add_mul]
    omega
theorem Sz.mul {M N v u : Nat} {p q : Rat} (h : Sz M v p) (g : Sz N u q) : Sz (M * N) (v * u) (p * q) := by
  obtain ⟨A, h1, h2⟩ := h
  obtain ⟨B, g1, g2⟩ := g
  refine ⟨A * B, ?_, ?_⟩
  · rw [h1, g1, Rat.mkRat_mul_mkRat]
  · rw [Int.natAbs_mul]
    calc A.natAbs * B.natAbs ≤ (v * M) * (u * N) := Nat.mul_le_mul h2 g2
      _ = v * u * (M * N) := by grind
theorem Sz.zero {M v : Nat} : Sz M v 0 := ⟨0, by simp, by simp⟩
theorem Sz.fit {M v : Nat} {q : Rat} (hM : M ≠ 0) (h : Sz M v q) : q.den ≤ M ∧ q.num.natAbs ≤ v * M := by
  obtain ⟨A, h1, h2⟩ := h
  obtain ⟨e1, e2⟩ := mk_parts (n := A) hM
  rw [h1, e1, e2]
  refine ⟨Nat.div_le_self _ _, Nat.le_trans ?_ h2⟩
  obtain ⟨k, hk⟩ := Nat.gcd_dvd_left A.natAbs M
  have dv : ((A.natAbs.gcd M : Nat) : Int) ∣ A := Int.ofNat_dvd_left.mpr ⟨k, hk⟩
  rw [Int.natAbs_ediv_of_dvd dv, Int.natAbs_natCast]
  exact Nat.div_le_self _ _
theorem Sz.bd {M v : Nat} {q : Rat} (hM : M ≠ 0) (h : Sz M v q) (l : (v + 1) * M < 2 ^ 1500) : Bd q := by
  obtain ⟨h1, h2⟩ := h.fit hM
  have : (v + 1) * M = v * M + M := by rw [Nat.add_mul, Nat.one_mul]
  exact ⟨by omega, by omega⟩
/-- a small fraction -/
theorem Sz.of {L v : Nat} {n : Int} {d : Nat} (hd : d ≠ 0) (h : d ∣ L) (hL : L ≠ 0) (hn : n.natAbs ≤ v) : Sz L v (mkRat n d) := by
  obtain ⟨k, rfl⟩ := h
  have hk : k ≠ 0 := by
    rintro rfl
    simp at hL
  refine ⟨n * k, (Rat.mkRat_mul_right hk).symm, ?_⟩
  rw [Int.natAbs_mul, Int.natAbs_natCast]
  have : 1 ≤ d := Nat.one_le_iff_ne_zero.mpr hd
  calc n.natAbs * k ≤ v * k := Nat.mul_le_mul_right k hn
    _ ≤ v * (d * k) := Nat.mul_le_mul_left v (Nat.le_mul_of_pos_left k (by omega))
theorem log_lt {n k : Nat} (h : n < 2 ^ k) (hk : k ≠ 0) : n.log2 < k := by
  by_cases e : n = 0
  · subst e; simp; omega
  · exact (Nat.log2_lt e).mpr h
theorem log_mul {a b k : Nat} (ha : a < 2 ^ k) (hb : b < 2 ^ k) (hk : k ≠ 0) : (a * b).log2 < 2 * k := by
  refine log_lt ?_ (by omega)
  rw [Nat.two_mul, Nat.pow_add]
  exact Nat.mul_lt_mul'' ha hb
theorem gcd_le_den {n : Int} {d : Nat} (hd : d ≠ 0) : n.natAbs.gcd d ≤ d := Nat.le_of_dvd (Nat.pos_of_ne_zero hd) (Nat.gcd_dvd_right _ _)
theorem gcd_pos {n : Int} {d : Nat} (hd : d ≠ 0) : 0 < n.natAbs.gcd d := Nat.gcd_pos_of_pos_right _ (Nat.pos_of_ne_zero hd)
end Ev

set_option Elab.async false
set_option linter.all false
set_option maxRecDepth 100000
set_option maxHeartbeats 8000000
/-! # Es: polynomials, rows, tables as trees; small lemmas for the defs of laws -/
namespace Ev
open PySem PySem.Spec PyProof.Rows L2

def ofP (p : List Rat) : D := .tup (p.map ofQ)
def ofR (r : List (List Rat)) : D := .tup (r.map ofP)
def ofM (m : List (List (List Rat))) : D := .tup (m.map ofR)
def natD (i : Nat) : D := .int (i : Nat)
theorem pa_N (l : List Nat) : pureAll (l.map natD) = true := pureAll_map (fun _ => rfl) l
theorem pa_I (l : List Int) : pureAll (l.map D.int) = true := pureAll_map (fun _ => rfl) l
theorem pure_P (p : List Rat) : (ofP p).pure = true := by unfold ofP; simp only [D.pure]; exact pureAll_map (fun q => rfl) p
theorem pure_R (r : List (List Rat)) : (ofR r).pure = true := by unfold ofR; simp only [D.pure]; exact pureAll_map pure_P r
theorem pure_M (m : List (List (List Rat))) : (ofM m).pure = true := by unfold ofM; simp only [D.pure]; exact pureAll_map pure_R m
theorem pa_Q (p : List Rat) : pureAll (p.map ofQ) = true := pureAll_map (fun q => rfl) p
theorem pa_P (r : List (List Rat)) : pureAll (r.map ofP) = true := pureAll_map pure_P r
theorem pa_R (m : List (List (List Rat))) : pureAll (m.map ofR) = true := pureAll_map pure_R m
theorem pu_Q (q : Rat) : (ofQ q).pure = true := rfl
theorem ofQ_zero : D.tup [.int 0, .int 1] = ofQ 0 := rfl
/-- the well: three ints -/
def Wk (w : Wl) : Prop := ∃ a b c : Int, w = [.int a, .int b, .int c]
def S_no : Spc := fun _ _ _ _ => False
theorem nat_of {r : Int} (h : 0 ≤ r) : ∃ n : Nat, r = (n : Int) := ⟨r.toNat, by omega⟩
theorem atI_in {α : Type} {xs : List α} {r : Int} (h0 : 0 ≤ r) (h : r < xs.length) : ∃ (j : Nat) (x : α), xs[j]? = some x ∧ atI xs r = some x := by
  obtain ⟨n, rfl⟩ := nat_of h0
  have hn : n < xs.length := by omega
  exact ⟨n, xs[n], List.getElem?_eq_getElem hn, atI_nat (List.getElem?_eq_getElem hn)⟩
theorem csm {i j : Int} (h : i.natAbs < 1000000000000) : CMul i j ∨ CMulW i j := .inl (.inl ⟨by omega, by omega⟩)
theorem csm2 {i j : Int} (h : j.natAbs < 1000000000000) : CMul i j ∨ CMulW i j := .inl (.inr ⟨by omega, by omega⟩)
theorem mk_ne {n : Int} {d : Nat} (hn : n ≠ 0) (hd : d ≠ 0) : mkRat n d ≠ 0 := fun e => hn ((Rat.mkRat_eq_zero hd).mp e)
theorem dat_Q (q : Rat) : (ofQ q).dat = true ∧ (ofQ q).dep ≤ 1 := by unfold ofQ; simp [D.dat, datAll, D.dep, depAll]
theorem dat_map {α : Type} {f : α → D} {n : Nat} {l : List α} (h : ∀ a ∈ l, (f a).dat = true ∧ (f a).dep ≤ n) : (D.tup (l.map f)).dat = true ∧ (D.tup (l.map f)).dep ≤ n + 1 := by
  refine ⟨datAll_iff.mpr fun d hd => ?_, Nat.succ_le_succ (depAll_le fun d hd => ?_)⟩ <;> obtain ⟨q, hq, rfl⟩ := List.mem_map.mp hd
  · exact (h q hq).1
  · exact (h q hq).2
theorem dat_P (p : List Rat) : (ofP p).dat = true ∧ (ofP p).dep ≤ 2 := dat_map fun q _ => dat_Q q
theorem dat_R (p : List (List Rat)) : (ofR p).dat = true ∧ (ofR p).dep ≤ 3 := dat_map fun q _ => dat_P q
theorem dat_M (p : List (List (List Rat))) : (ofM p).dat = true ∧ (ofM p).dep ≤ 4 := dat_map fun q _ => dat_R q
theorem map_get {α : Type} {f : α → D} {l : List α} {i : Nat} {x : D} (h : (l.map f)[i]? = some x) : ∃ a, a ∈ l ∧ l[i]? = some a ∧ x = f a := by
  rw [List.getElem?_map] at h
  cases e : l[i]? with
  | none => rw [e] at h; cases h
  | some a =>
    rw [e] at h
    cases h
    exact ⟨a, List.mem_of_getElem? e, rfl, rfl⟩
theorem cutD_lo (xs : List D) (r : Nat) : Ev.cutD xs none (some (r : Nat)) = xs.take r := by
  unfold Ev.cutD
  rw [HT.sIx_nat, HT.sIx_none, List.drop_zero, Nat.sub_zero]
  by_cases h : r ≤ xs.length
  · rw [Nat.min_eq_left h]
  · rw [Nat.min_eq_right (by omega), List.take_length, List.take_of_length_le (by omega)]
theorem cutD_hi (xs : List D) (r : Nat) : Ev.cutD xs (some ((r : Nat) : Int)) none = xs.drop r := by
  unfold Ev.cutD
  rw [HT.sIx_nat, HT.sIx_none]
  by_cases h : r ≤ xs.length
  · rw [Nat.min_eq_left h, List.take_of_length_le (by simp)]
  · rw [Nat.min_eq_right (by omega), List.drop_length, List.drop_eq_nil_of_le (by omega)]
    simp
theorem cutD_1 (x : D) (xs : List D) : Ev.cutD (x :: xs) (some 1) none = xs := cutD_hi (x :: xs) 1
theorem all_maps {α : Type} {l : List α} {f : α → D} : (l.map f).map (fun _ => D.bl true) = l.map fun _ => D.bl true := by simp
/-- all of a list of truths that are known -/
theorem all_map {α : Type} {l : List α} {p : α → Bool} : blsOf (l.map fun a => D.bl (p a)) = some (l.map p) := by
  induction l with
  | nil => rfl
  | cons a l ih => simp [blsOf, ih]
theorem eq_str (s : Str) : eqD (.str s) (.str s) = true := by
  show (s == s) = true
  simp
theorem ne_tup {xs : List D} (h : xs ≠ []) : eqD (.tup xs) (.tup []) = false := by
  cases xs with
  | nil => exact absurd rfl h
  | cons x xs => rfl
theorem ne_lst {xs : List D} (h : xs ≠ []) : eqD (.lst xs) (.lst []) = false := by
  cases xs with
  | nil => exact absurd rfl h
  | cons x xs => rfl
theorem snoc_mem {α : Type} {l : List α} {a x : α} {P : α → Prop} (h : ∀ y ∈ l, P y) (ha : P a) (hx : x ∈ l ++ [a]) : P x := by
  rcases List.mem_append.mp hx with z | z
  · exact h x z
  · have : x = a := by simpa using z
    rw [this]; exact ha
theorem ints_of (l : List Int) : intsOf (l.map D.int) = some l := by
  induction l with
  | nil => rfl
  | cons a l ih => simp [intsOf, ih]
theorem bl_eq {a b : Bool} : eqD (.bl a) (.bl b) = decide (a = b) := by
  cases a <;> cases b <;> rfl
theorem ok_bl {b : Bool} : (D.bl b).dat = true ∧ (D.bl b).dep ≤ 60 := ⟨rfl, Nat.zero_le _⟩
/-- membership, not to be taken apart -/
def Inn (x : D) (xs : List D) : Prop := x ∈ xs
theorem pa_app : ∀ a b : List D, pureAll (a ++ b) = (pureAll a && pureAll b)
  | [], b => by simp [pureAll]
  | x :: a, b => by simp [pureAll, pa_app a b, Bool.and_assoc]
theorem ofQ_one (n : Int) : D.tup [.int n, .int 1] = ofQ (mkRat n 1) := by
  have := mk_pair (n := n) (d := 1) (by decide)
  simpa using this
end Ev

set_option Elab.async false
set_option linter.all false
set_option maxRecDepth 100000
set_option maxHeartbeats 8000000
namespace K02
open PySem PySem.Spec PyProof.Rows L2 Ev

def tops (i : Nat) : Stmt := PySem.Challenge.pw_hiddenties_k02_whole_models_and_patterns.main.body.getD i (.Pass ⟨0, 0, 0, 0⟩)
def fss : List Str := (["_law_draw", "_law_pick", "_law_order_list", "_law_grid", "_law_ratio", "_law_number", "_law_polynomial", "_law_sheet", "_law_odd", "_law_bent", "_law_bent", "_law_bent", "_law_bent", "_law_bent", "_law_bent", "_law_bent"] : List Str) ++ (["_law_bent", "_law_bent", "_law_bent", "_law_is_square", "_law_is_whole", "_law_is_grid", "_law_is_fraction", "_law_is_polynomial", "_law_is_sheet", "_law_orders", "is_whole", "are_wholes", "divisor_of", "is_ratio", "is_poly", "is_entry"] : List Str) ++ (["is_square_of", "is_modelled", "check_model", "pattern_by", "pattern_of", "_law_said", "is_patterned", "is_pattern", "is_model", "_law_right", "_law_well", "law"] : List Str)
def kss : List (Str × List Str) := [("is_pattern", ["value"]), ("is_model", ["value"])]
def css : List Str := ["NOUGHT"]
def ess : List (Str × Bool) := [(("InvalidModel" : Str), true)]
def bls : List Str := ["abs", "all", "bool", "divmod", "int", "isinstance", "len", "list", "max", "min", "range", "repr", "str", "tuple"]
def n__law_draw : List Str := ["_law_well_here", "_law_many", "_law_seed", "_law_digit"]
abbrev s__law_draw : Stmt := tops 25
def c__law_draw : CC := ⟨n__law_draw, fss.take 0, kss.take 0, css, [], bls, true⟩
def b__law_draw_1 : Sms := (.cons (.sub 0 (.int 2) (.bin .add (.idx (.var 0) (.int 2)) (.int 1))) (.cons (.set 2 (.bin .mod (.prim .int (.cons (.bin .add (.idx (.var 0) (.int 1)) (.bin .mul (.int 91019) (.idx (.var 0) (.int 2)))) .nil)) (.int 2147483399))) (.cons (.sub 0 (.int 1) (.bin .mod (.prim .int (.cons (.bin .add (.bin .mul (.var 2) (.bin .add (.bin .mod (.prim .int (.cons (.var 2) .nil)) (.int 9803)) (.int 29009))) (.bin .mul (.int 23) (.idx (.var 0) (.int 2)))) .nil)) (.int 2147483399))) (.cons (.ret (.bin .mod (.prim .int (.cons (.bin .fdv (.idx (.var 0) (.int 1)) (.int 1021)) .nil)) (.var 1))) .nil))))
def b__law_draw : Sms := (.cons (.iff (.cmp .gt (.idx (.var 0) (.int 0)) (.int 0)) (.cons (.tset [.sb 0 (.int 0), .nm 3] (.prim .divmod (.cons (.idx (.var 0) (.int 0)) (.cons (.var 1) .nil)))) (.cons (.retv 3) .nil)) .nil) b__law_draw_1)
theorem t__law_draw : okSs c__law_draw b__law_draw (fun _ => true) (defScope s__law_draw) (defBody s__law_draw) = true := by decide +kernel
theorem f__law_draw : FnScope n__law_draw ["_law_well_here", "_law_many"] (defScope s__law_draw) := ⟨rfl, rfl, rfl, by decide +kernel, rfl, by decide +kernel, by decide +kernel⟩
def n__law_pick : List Str := ["_law_well_here", "_law_some"]
abbrev s__law_pick : Stmt := tops 26
def c__law_pick : CC := ⟨n__law_pick, fss.take 1, kss.take 0, css, [], bls, true⟩
def b__law_pick : Sms := (.cons (.ret (.idx (.var 1) (.call "_law_draw" 0 (.cons (.var 0) (.cons (.prim .len (.cons (.var 1) .nil)) .nil))))) .nil)
theorem t__law_pick : okSs c__law_pick b__law_pick (fun _ => true) (defScope s__law_pick) (defBody s__law_pick) = true := by decide +kernel
theorem f__law_pick : FnScope n__law_pick ["_law_well_here", "_law_some"] (defScope s__law_pick) := ⟨rfl, rfl, rfl, by decide +kernel, rfl, by decide +kernel, by decide +kernel⟩
def n__law_order_list : List Str := ["_law_well_here", "_law_n", "_law_left", "_law_found", "_law_turn", "_law_at"]
abbrev s__law_order_list : Stmt := tops 28
def c__law_order_list : CC := ⟨n__law_order_list, fss.take 2, kss.take 0, css, [], bls, true⟩
def b__law_order_list_1 : Sms := (.cons (.retv 3) .nil)
def b__law_order_list_2 : Sms := (.cons (.app 3 (.idx (.var 2) (.var 5))) (.cons (.set 2 (.bin .add (.slc (.var 2) .no (.ex (.var 5))) (.slc (.var 2) (.ex (.bin .add (.var 5) (.int 1))) .no))) .nil))
def b__law_order_list_3 : Sms := (.cons (.set 5 (.call "_law_draw" 0 (.cons (.var 0) (.cons (.prim .len (.cons (.var 2) .nil)) .nil)))) b__law_order_list_2)
def b__law_order_list : Sms := (.cons (.par 2 3 (.lrg (.cons (.var 1) .nil)) (.lst .nil)) (.cons (.forr (.nm 4) (.rng (.cons (.var 1) .nil)) b__law_order_list_3) b__law_order_list_1))
theorem t__law_order_list : okSs c__law_order_list b__law_order_list (fun _ => true) (defScope s__law_order_list) (defBody s__law_order_list) = true := by decide +kernel
theorem f__law_order_list : FnScope n__law_order_list ["_law_well_here", "_law_n"] (defScope s__law_order_list) := ⟨rfl, rfl, rfl, by decide +kernel, rfl, by decide +kernel, by decide +kernel⟩
def n__law_grid : List Str := ["_law_well_here", "_law_most", "_law_n", "_law_style", "_law_high", "_law_rows", "_law_i", "_law_way", "_law_line", "_law_j", "_law_order", "_law_is_there"]
abbrev s__law_grid : Stmt := tops 29
def c__law_grid : CC := ⟨n__law_grid, fss.take 3, kss.take 0, css, [], bls, true⟩
def e__law_grid_1 : Ex := (.prim .tuple (.cons (.var 8) .nil))
def b__law_grid_2 : Sms := (.cons (.ret (.prim .tuple (.cons (.lc [("_law_line", 8)] e__law_grid_1 (.nm 8) (.seq (.var 5)) .no) .nil))) .nil)
def b__law_grid_3 : Sms := (.cons (.iff (.cmp .isN (.idx (.idx (.var 5) (.var 6)) (.idx (.var 10) (.var 6))) .non) (.cons (.sub2 5 (.var 6) (.idx (.var 10) (.var 6)) (.call "_law_draw" 0 (.cons (.var 0) (.cons (.var 4) .nil)))) .nil) .nil) .nil)
def b__law_grid_4 : Sms := (.cons (.forr (.nm 6) (.rng (.cons (.var 2) .nil)) b__law_grid_3) .nil)
def b__law_grid_5 : Sms := (.cons (.iff (.cmp .gt (.var 7) (.int 1)) (.cons (.set 10 (.call "_law_order_list" 2 (.cons (.var 0) (.cons (.var 2) .nil)))) b__law_grid_4) .nil) b__law_grid_2)
def b__law_grid_6 : Sms := (.cons (.set 7 (.call "_law_draw" 0 (.cons (.var 0) (.cons (.int 8) .nil)))) b__law_grid_5)
def b__law_grid_7 : Sms := (.cons (.appm 5 8) .nil)
def b__law_grid_8 : Sms := (.cons (.app 8 (.ife (.var 11) (.call "_law_draw" 0 (.cons (.var 0) (.cons (.var 4) .nil))) .non)) .nil)
def b__law_grid_9 : Sms := (.cons (.set 11 (.cmp .ge (.call "_law_draw" 0 (.cons (.var 0) (.cons (.int 6) .nil))) (.idx (.tup (.cons (.int 4) (.cons (.int 3) (.cons (.int 2) (.cons (.int 1) (.cons (.int 0) .nil)))))) (.var 3)))) b__law_grid_8)
def b__law_grid_10 : Sms := (.cons (.set 8 (.lst .nil)) (.cons (.forr (.nm 9) (.rng (.cons (.var 2) .nil)) b__law_grid_9) b__law_grid_7))
def b__law_grid_11 : Sms := (.cons (.forr (.nm 6) (.rng (.cons (.var 2) .nil)) b__law_grid_10) b__law_grid_6)
def b__law_grid_12 : Sms := (.cons (.par 4 5 (.call "_law_pick" 1 (.cons (.var 0) (.cons (.tup (.cons (.int 1) (.cons (.int 2) (.cons (.int 3) (.cons (.int 3) (.cons (.int 4) (.cons (.int 10) .nil))))))) .nil))) (.lst .nil)) b__law_grid_11)
def b__law_grid : Sms := (.cons (.par 2 3 (.prim .min2 (.cons (.var 1) (.cons (.call "_law_pick" 1 (.cons (.var 0) (.cons (.tup (.cons (.int 1) (.cons (.int 2) (.cons (.int 2) (.cons (.int 3) (.cons (.int 3) (.cons (.int 3) (.cons (.int 4) .nil)))))))) .nil))) .nil))) (.call "_law_draw" 0 (.cons (.var 0) (.cons (.int 5) .nil)))) b__law_grid_12)
theorem t__law_grid : okSs c__law_grid b__law_grid (fun _ => true) (defScope s__law_grid) (defBody s__law_grid) = true := by decide +kernel
theorem f__law_grid : FnScope n__law_grid ["_law_well_here", "_law_most"] (defScope s__law_grid) := ⟨rfl, rfl, rfl, by decide +kernel, rfl, by decide +kernel, by decide +kernel⟩
def n__law_ratio : List Str := ["_law_n", "_law_m", "_law_one", "_law_two"]
abbrev s__law_ratio : Stmt := tops 27
def c__law_ratio : CC := ⟨n__law_ratio, fss.take 4, kss.take 0, css, [], bls, true⟩
def b__law_ratio_1 : Sms := (.cons (.set 2 (.ife (.cmp .gt (.var 1) (.int 0)) (.var 2) (.neg (.var 2)))) (.cons (.ret (.tup (.cons (.bin .fdv (.var 0) (.var 2)) (.cons (.bin .fdv (.var 1) (.var 2)) .nil)))) .nil))
def b__law_ratio_2 : Sms := (.cons (.par 2 3 (.var 3) (.bin .mod (.prim .int (.cons (.var 2) .nil)) (.var 3))) .nil)
def b__law_ratio : Sms := (.cons (.par 2 3 (.prim .abs (.cons (.var 0) .nil)) (.prim .abs (.cons (.var 1) .nil))) (.cons (.whl (.cmp .gt (.var 3) (.int 0)) b__law_ratio_2) b__law_ratio_1))
theorem t__law_ratio : okSs c__law_ratio b__law_ratio (fun _ => true) (defScope s__law_ratio) (defBody s__law_ratio) = true := by decide +kernel
theorem f__law_ratio : FnScope n__law_ratio ["_law_n", "_law_m"] (defScope s__law_ratio) := ⟨rfl, rfl, rfl, by decide +kernel, rfl, by decide +kernel, by decide +kernel⟩
def n__law_number : List Str := ["_law_well_here", "_law_way", "_law_sign"]
abbrev s__law_number : Stmt := tops 30
def c__law_number : CC := ⟨n__law_number, fss.take 5, kss.take 0, css, [], bls, true⟩
def b__law_number_1 : Sms := (.cons (.ret (.call "_law_ratio" 4 (.cons (.bin .mul (.var 2) (.bin .add (.int 1) (.call "_law_draw" 0 (.cons (.var 0) (.cons (.bin .pow (.int 10) (.int 6)) .nil))))) (.cons (.bin .add (.int 1) (.call "_law_draw" 0 (.cons (.var 0) (.cons (.int 50) .nil)))) .nil)))) .nil)
def b__law_number_2 : Sms := (.cons (.iff (.cmp .lt (.var 1) (.int 8)) (.cons (.ret (.call "_law_ratio" 4 (.cons (.bin .mul (.var 2) (.bin .add (.int 1) (.call "_law_draw" 0 (.cons (.var 0) (.cons (.int 6) .nil))))) (.cons (.bin .add (.int 1) (.call "_law_draw" 0 (.cons (.var 0) (.cons (.int 4) .nil)))) .nil)))) .nil) .nil) b__law_number_1)
def b__law_number_3 : Sms := (.cons (.iff (.cmp .lt (.var 1) (.int 6)) (.cons (.ret (.tup (.cons (.bin .mul (.var 2) (.bin .add (.int 1) (.call "_law_draw" 0 (.cons (.var 0) (.cons (.int 3) .nil))))) (.cons (.int 1) .nil)))) .nil) .nil) b__law_number_2)
def b__law_number : Sms := (.cons (.par 1 2 (.call "_law_draw" 0 (.cons (.var 0) (.cons (.int 9) .nil))) (.bin .sub (.int 1) (.bin .mul (.int 2) (.call "_law_draw" 0 (.cons (.var 0) (.cons (.int 2) .nil)))))) b__law_number_3)
theorem t__law_number : okSs c__law_number b__law_number (fun _ => true) (defScope s__law_number) (defBody s__law_number) = true := by decide +kernel
theorem f__law_number : FnScope n__law_number ["_law_well_here"] (defScope s__law_number) := ⟨rfl, rfl, rfl, by decide +kernel, rfl, by decide +kernel, by decide +kernel⟩
def n__law_polynomial : List Str := ["_law_well_here", "_law_order", "_law_found", "_law_k"]
abbrev s__law_polynomial : Stmt := tops 31
def c__law_polynomial : CC := ⟨n__law_polynomial, fss.take 6, kss.take 0, css, [], bls, true⟩
def b__law_polynomial_1 : Sms := (.cons (.ret (.bin .add (.prim .tuple (.cons (.var 2) .nil)) (.tup (.cons (.call "_law_number" 5 (.cons (.var 0) .nil)) .nil)))) .nil)
def b__law_polynomial_2 : Sms := (.cons (.app 2 (.ife (.cmp .gt (.call "_law_draw" 0 (.cons (.var 0) (.cons (.int 3) .nil))) (.int 0)) (.tup (.cons (.int 0) (.cons (.int 1) .nil))) (.call "_law_number" 5 (.cons (.var 0) .nil)))) .nil)
def b__law_polynomial_3 : Sms := (.cons (.set 2 (.lst .nil)) (.cons (.forr (.nm 3) (.rng (.cons (.var 1) .nil)) b__law_polynomial_2) b__law_polynomial_1))
def b__law_polynomial : Sms := (.cons (.iff (.cmp .isN (.var 1) .non) (.cons (.ret (.tup .nil)) .nil) .nil) b__law_polynomial_3)
theorem t__law_polynomial : okSs c__law_polynomial b__law_polynomial (fun _ => true) (defScope s__law_polynomial) (defBody s__law_polynomial) = true := by decide +kernel
theorem f__law_polynomial : FnScope n__law_polynomial ["_law_well_here", "_law_order"] (defScope s__law_polynomial) := ⟨rfl, rfl, rfl, by decide +kernel, rfl, by decide +kernel, by decide +kernel⟩
def n__law_sheet : List Str := ["_law_well_here", "_law_rows", "_law_found", "_law_line", "_law_whole", "_law_order"]
abbrev s__law_sheet : Stmt := tops 32
def c__law_sheet : CC := ⟨n__law_sheet, fss.take 7, kss.take 0, css, [], bls, true⟩
def b__law_sheet_1 : Sms := (.cons (.ret (.prim .tuple (.cons (.var 2) .nil))) .nil)
def b__law_sheet_2 : Sms := (.cons (.app 2 (.prim .tuple (.cons (.var 4) .nil))) .nil)
def b__law_sheet_3 : Sms := (.cons (.app 4 (.call "_law_polynomial" 6 (.cons (.var 0) (.cons (.var 5) .nil)))) .nil)
def b__law_sheet_4 : Sms := (.cons (.set 4 (.lst .nil)) (.cons (.forr (.nm 5) (.seq (.var 3)) b__law_sheet_3) b__law_sheet_2))
def b__law_sheet : Sms := (.cons (.set 2 (.lst .nil)) (.cons (.forr (.nm 3) (.seq (.var 1)) b__law_sheet_4) b__law_sheet_1))
theorem t__law_sheet : okSs c__law_sheet b__law_sheet (fun _ => true) (defScope s__law_sheet) (defBody s__law_sheet) = true := by decide +kernel
theorem f__law_sheet : FnScope n__law_sheet ["_law_well_here", "_law_rows"] (defScope s__law_sheet) := ⟨rfl, rfl, rfl, by decide +kernel, rfl, by decide +kernel, by decide +kernel⟩
def n__law_odd : List Str := ["_law_well_here", "_law_plain", "_law_nested"]
abbrev s__law_odd : Stmt := tops 34
def c__law_odd : CC := ⟨n__law_odd, fss.take 8, kss.take 0, css, [], bls, true⟩
def b__law_odd : Sms := (.cons (.set 1 (.tup (.cons .non (.cons (.bl true) (.cons (.bl false) (.cons (.int 0) (.cons (.int 1) (.cons (.neg (.int 1)) (.cons (.int 7) (.cons (.str "") (.cons (.str "0") (.cons (.tup .nil) (.cons (.tup (.cons (.int 0) .nil)) (.cons (.tup (.cons .non .nil)) (.cons (.tup (.cons (.int 1) (.cons (.int 1) .nil))) (.cons (.tup (.cons (.int 0) (.cons (.int 1) .nil))) (.cons (.tup (.cons (.int 2) (.cons (.int 4) .nil))) (.cons (.tup (.cons (.int 1) (.cons (.int 0) .nil))) (.cons (.tup (.cons (.int 1) (.cons (.neg (.int 2)) .nil))) .nil))))))))))))))))))) (.cons (.set 2 (.tup (.cons (.lst .nil) (.cons .emp (.cons (.tup (.cons (.tup .nil) .nil)) (.cons (.tup (.cons (.tup (.cons (.tup .nil) .nil)) .nil)) (.cons (.tup (.cons (.tup (.cons (.int 0) .nil)) .nil)) (.cons (.tup (.cons (.tup (.cons (.int 1) (.cons (.int 1) .nil))) .nil)) (.cons (.tup (.cons (.tup (.cons (.tup (.cons (.int 1) (.cons (.int 1) .nil))) .nil)) .nil)) (.cons (.tup (.cons (.tup (.cons (.tup (.cons (.tup (.cons (.int 1) (.cons (.int 1) .nil))) .nil)) .nil)) .nil)) (.cons (.tup (.cons (.lst (.cons (.int 0) .nil)) .nil)) (.cons (.lst (.cons (.tup (.cons (.int 0) .nil)) .nil)) (.cons (.tup (.cons (.tup (.cons .non .nil)) .nil)) .nil))))))))))))) (.cons (.ret (.call "_law_pick" 1 (.cons (.var 0) (.cons (.ife (.cmp .eq (.call "_law_draw" 0 (.cons (.var 0) (.cons (.int 2) .nil))) (.int 0)) (.var 1) (.bin .add (.var 2) (.tup (.cons (.tup (.cons (.tup (.cons (.str "0") .nil)) .nil)) .nil)))) .nil)))) .nil)))
theorem t__law_odd : okSs c__law_odd b__law_odd (fun _ => true) (defScope s__law_odd) (defBody s__law_odd) = true := by decide +kernel
theorem f__law_odd : FnScope n__law_odd ["_law_well_here"] (defScope s__law_odd) := ⟨rfl, rfl, rfl, by decide +kernel, rfl, by decide +kernel, by decide +kernel⟩
def n__law_bent_L1 : List Str := ["_law_well_here", "_law_thing", "_law_at", "_law_way"]
abbrev s__law_bent_L1 : Stmt := tops 35
def c__law_bent_L1 : CC := ⟨n__law_bent_L1, fss.take 9, kss.take 0, css, [], bls, true⟩
def b__law_bent_L1_1 : Sms := (.cons (.ret (.call "_law_odd" 8 (.cons (.var 0) .nil))) .nil)
def b__law_bent_L1_2 : Sms := (.cons (.iff (.ands (.isi (.var 1) .int) (.cons (.nt (.isi (.var 1) .bool)) (.cons (.cmp .eq (.call "_law_draw" 0 (.cons (.var 0) (.cons (.int 2) .nil))) (.int 0)) .nil))) (.cons (.ret (.call "_law_pick" 1 (.cons (.var 0) (.cons (.tup (.cons (.bin .add (.var 1) (.int 1)) (.cons (.neg (.var 1)) (.cons (.int 0) (.cons (.prim .str (.cons (.var 1) .nil)) (.cons (.tup (.cons (.var 1) .nil)) (.cons (.cmp .eq (.var 1) (.int 1)) (.cons (.bin .sub (.var 1) (.int 1)) (.cons .non .nil))))))))) .nil)))) .nil) .nil) b__law_bent_L1_1)
def b__law_bent_L1_3 : Sms := (.cons (.ret (.ife (.cmp .eq (.var 3) (.int 6)) (.bin .add (.slc (.var 1) .no (.ex (.var 2))) (.slc (.var 1) (.ex (.bin .add (.var 2) (.int 1))) .no)) (.bin .add (.slc (.var 1) .no (.ex (.bin .add (.var 2) (.int 1)))) (.slc (.var 1) (.ex (.var 2)) .no)))) .nil)
def b__law_bent_L1_4 : Sms := (.cons (.iff (.cmp .eq (.var 3) (.int 5)) (.cons (.ret (.prim .list (.cons (.var 1) .nil))) .nil) .nil) b__law_bent_L1_3)
def b__law_bent_L1_5 : Sms := (.cons (.iff (.cmp .lt (.var 3) (.int 5)) (.cons .never .nil) .nil) b__law_bent_L1_4)
def b__law_bent_L1 : Sms := (.cons (.iff (.ands (.isi (.var 1) .tuple) (.cons (.cmp .ne (.var 1) (.tup .nil)) .nil)) (.cons (.par 2 3 (.call "_law_draw" 0 (.cons (.var 0) (.cons (.prim .len (.cons (.var 1) .nil)) .nil))) (.call "_law_draw" 0 (.cons (.var 0) (.cons (.int 8) .nil)))) b__law_bent_L1_5) .nil) b__law_bent_L1_2)
theorem t__law_bent_L1 : okSs c__law_bent_L1 b__law_bent_L1 (fun _ => true) (defScope s__law_bent_L1) (defBody s__law_bent_L1) = true := by decide +kernel
theorem f__law_bent_L1 : FnScope n__law_bent_L1 ["_law_well_here", "_law_thing"] (defScope s__law_bent_L1) := ⟨rfl, rfl, rfl, by decide +kernel, rfl, by decide +kernel, by decide +kernel⟩
def n__law_bent_L2 : List Str := ["_law_well_here", "_law_thing", "_law_at", "_law_way"]
abbrev s__law_bent_L2 : Stmt := tops 35
def c__law_bent_L2 : CC := ⟨n__law_bent_L2, fss.take 10, kss.take 0, css, [], bls, true⟩
def b__law_bent_L2_1 : Sms := (.cons (.ret (.call "_law_odd" 8 (.cons (.var 0) .nil))) .nil)
def b__law_bent_L2_2 : Sms := (.cons (.iff (.ands (.isi (.var 1) .int) (.cons (.nt (.isi (.var 1) .bool)) (.cons (.cmp .eq (.call "_law_draw" 0 (.cons (.var 0) (.cons (.int 2) .nil))) (.int 0)) .nil))) (.cons (.ret (.call "_law_pick" 1 (.cons (.var 0) (.cons (.tup (.cons (.bin .add (.var 1) (.int 1)) (.cons (.neg (.var 1)) (.cons (.int 0) (.cons (.prim .str (.cons (.var 1) .nil)) (.cons (.tup (.cons (.var 1) .nil)) (.cons (.cmp .eq (.var 1) (.int 1)) (.cons (.bin .sub (.var 1) (.int 1)) (.cons .non .nil))))))))) .nil)))) .nil) .nil) b__law_bent_L2_1)
def b__law_bent_L2_3 : Sms := (.cons (.ret (.ife (.cmp .eq (.var 3) (.int 6)) (.bin .add (.slc (.var 1) .no (.ex (.var 2))) (.slc (.var 1) (.ex (.bin .add (.var 2) (.int 1))) .no)) (.bin .add (.slc (.var 1) .no (.ex (.bin .add (.var 2) (.int 1)))) (.slc (.var 1) (.ex (.var 2)) .no)))) .nil)
def b__law_bent_L2_4 : Sms := (.cons (.iff (.cmp .eq (.var 3) (.int 5)) (.cons (.ret (.prim .list (.cons (.var 1) .nil))) .nil) .nil) b__law_bent_L2_3)
def b__law_bent_L2_5 : Sms := (.cons (.iff (.cmp .lt (.var 3) (.int 5)) (.cons (.ret (.bin .add (.bin .add (.slc (.var 1) .no (.ex (.var 2))) (.tup (.cons (.call "_law_bent" 9 (.cons (.var 0) (.cons (.idx (.var 1) (.var 2)) .nil))) .nil))) (.slc (.var 1) (.ex (.bin .add (.var 2) (.int 1))) .no))) .nil) .nil) b__law_bent_L2_4)
def b__law_bent_L2 : Sms := (.cons (.iff (.ands (.isi (.var 1) .tuple) (.cons (.cmp .ne (.var 1) (.tup .nil)) .nil)) (.cons (.par 2 3 (.call "_law_draw" 0 (.cons (.var 0) (.cons (.prim .len (.cons (.var 1) .nil)) .nil))) (.call "_law_draw" 0 (.cons (.var 0) (.cons (.int 8) .nil)))) b__law_bent_L2_5) .nil) b__law_bent_L2_2)
theorem t__law_bent_L2 : okSs c__law_bent_L2 b__law_bent_L2 (fun _ => true) (defScope s__law_bent_L2) (defBody s__law_bent_L2) = true := by decide +kernel
theorem f__law_bent_L2 : FnScope n__law_bent_L2 ["_law_well_here", "_law_thing"] (defScope s__law_bent_L2) := ⟨rfl, rfl, rfl, by decide +kernel, rfl, by decide +kernel, by decide +kernel⟩
def n__law_bent_L3 : List Str := ["_law_well_here", "_law_thing", "_law_at", "_law_way"]
abbrev s__law_bent_L3 : Stmt := tops 35
def c__law_bent_L3 : CC := ⟨n__law_bent_L3, fss.take 11, kss.take 0, css, [], bls, true⟩
def b__law_bent_L3_1 : Sms := (.cons (.ret (.call "_law_odd" 8 (.cons (.var 0) .nil))) .nil)
def b__law_bent_L3_2 : Sms := (.cons (.iff (.ands (.isi (.var 1) .int) (.cons (.nt (.isi (.var 1) .bool)) (.cons (.cmp .eq (.call "_law_draw" 0 (.cons (.var 0) (.cons (.int 2) .nil))) (.int 0)) .nil))) (.cons (.ret (.call "_law_pick" 1 (.cons (.var 0) (.cons (.tup (.cons (.bin .add (.var 1) (.int 1)) (.cons (.neg (.var 1)) (.cons (.int 0) (.cons (.prim .str (.cons (.var 1) .nil)) (.cons (.tup (.cons (.var 1) .nil)) (.cons (.cmp .eq (.var 1) (.int 1)) (.cons (.bin .sub (.var 1) (.int 1)) (.cons .non .nil))))))))) .nil)))) .nil) .nil) b__law_bent_L3_1)
def b__law_bent_L3_3 : Sms := (.cons (.ret (.ife (.cmp .eq (.var 3) (.int 6)) (.bin .add (.slc (.var 1) .no (.ex (.var 2))) (.slc (.var 1) (.ex (.bin .add (.var 2) (.int 1))) .no)) (.bin .add (.slc (.var 1) .no (.ex (.bin .add (.var 2) (.int 1)))) (.slc (.var 1) (.ex (.var 2)) .no)))) .nil)
def b__law_bent_L3_4 : Sms := (.cons (.iff (.cmp .eq (.var 3) (.int 5)) (.cons (.ret (.prim .list (.cons (.var 1) .nil))) .nil) .nil) b__law_bent_L3_3)
def b__law_bent_L3_5 : Sms := (.cons (.iff (.cmp .lt (.var 3) (.int 5)) (.cons (.ret (.bin .add (.bin .add (.slc (.var 1) .no (.ex (.var 2))) (.tup (.cons (.call "_law_bent" 10 (.cons (.var 0) (.cons (.idx (.var 1) (.var 2)) .nil))) .nil))) (.slc (.var 1) (.ex (.bin .add (.var 2) (.int 1))) .no))) .nil) .nil) b__law_bent_L3_4)
def b__law_bent_L3 : Sms := (.cons (.iff (.ands (.isi (.var 1) .tuple) (.cons (.cmp .ne (.var 1) (.tup .nil)) .nil)) (.cons (.par 2 3 (.call "_law_draw" 0 (.cons (.var 0) (.cons (.prim .len (.cons (.var 1) .nil)) .nil))) (.call "_law_draw" 0 (.cons (.var 0) (.cons (.int 8) .nil)))) b__law_bent_L3_5) .nil) b__law_bent_L3_2)
theorem t__law_bent_L3 : okSs c__law_bent_L3 b__law_bent_L3 (fun _ => true) (defScope s__law_bent_L3) (defBody s__law_bent_L3) = true := by decide +kernel
theorem f__law_bent_L3 : FnScope n__law_bent_L3 ["_law_well_here", "_law_thing"] (defScope s__law_bent_L3) := ⟨rfl, rfl, rfl, by decide +kernel, rfl, by decide +kernel, by decide +kernel⟩
def n__law_bent_L4 : List Str := ["_law_well_here", "_law_thing", "_law_at", "_law_way"]
abbrev s__law_bent_L4 : Stmt := tops 35
def c__law_bent_L4 : CC := ⟨n__law_bent_L4, fss.take 12, kss.take 0, css, [], bls, true⟩
def b__law_bent_L4_1 : Sms := (.cons (.ret (.call "_law_odd" 8 (.cons (.var 0) .nil))) .nil)
def b__law_bent_L4_2 : Sms := (.cons (.iff (.ands (.isi (.var 1) .int) (.cons (.nt (.isi (.var 1) .bool)) (.cons (.cmp .eq (.call "_law_draw" 0 (.cons (.var 0) (.cons (.int 2) .nil))) (.int 0)) .nil))) (.cons (.ret (.call "_law_pick" 1 (.cons (.var 0) (.cons (.tup (.cons (.bin .add (.var 1) (.int 1)) (.cons (.neg (.var 1)) (.cons (.int 0) (.cons (.prim .str (.cons (.var 1) .nil)) (.cons (.tup (.cons (.var 1) .nil)) (.cons (.cmp .eq (.var 1) (.int 1)) (.cons (.bin .sub (.var 1) (.int 1)) (.cons .non .nil))))))))) .nil)))) .nil) .nil) b__law_bent_L4_1)
def b__law_bent_L4_3 : Sms := (.cons (.ret (.ife (.cmp .eq (.var 3) (.int 6)) (.bin .add (.slc (.var 1) .no (.ex (.var 2))) (.slc (.var 1) (.ex (.bin .add (.var 2) (.int 1))) .no)) (.bin .add (.slc (.var 1) .no (.ex (.bin .add (.var 2) (.int 1)))) (.slc (.var 1) (.ex (.var 2)) .no)))) .nil)
def b__law_bent_L4_4 : Sms := (.cons (.iff (.cmp .eq (.var 3) (.int 5)) (.cons (.ret (.prim .list (.cons (.var 1) .nil))) .nil) .nil) b__law_bent_L4_3)
def b__law_bent_L4_5 : Sms := (.cons (.iff (.cmp .lt (.var 3) (.int 5)) (.cons (.ret (.bin .add (.bin .add (.slc (.var 1) .no (.ex (.var 2))) (.tup (.cons (.call "_law_bent" 11 (.cons (.var 0) (.cons (.idx (.var 1) (.var 2)) .nil))) .nil))) (.slc (.var 1) (.ex (.bin .add (.var 2) (.int 1))) .no))) .nil) .nil) b__law_bent_L4_4)
def b__law_bent_L4 : Sms := (.cons (.iff (.ands (.isi (.var 1) .tuple) (.cons (.cmp .ne (.var 1) (.tup .nil)) .nil)) (.cons (.par 2 3 (.call "_law_draw" 0 (.cons (.var 0) (.cons (.prim .len (.cons (.var 1) .nil)) .nil))) (.call "_law_draw" 0 (.cons (.var 0) (.cons (.int 8) .nil)))) b__law_bent_L4_5) .nil) b__law_bent_L4_2)
theorem t__law_bent_L4 : okSs c__law_bent_L4 b__law_bent_L4 (fun _ => true) (defScope s__law_bent_L4) (defBody s__law_bent_L4) = true := by decide +kernel
theorem f__law_bent_L4 : FnScope n__law_bent_L4 ["_law_well_here", "_law_thing"] (defScope s__law_bent_L4) := ⟨rfl, rfl, rfl, by decide +kernel, rfl, by decide +kernel, by decide +kernel⟩
def n__law_bent_L5 : List Str := ["_law_well_here", "_law_thing", "_law_at", "_law_way"]
abbrev s__law_bent_L5 : Stmt := tops 35
def c__law_bent_L5 : CC := ⟨n__law_bent_L5, fss.take 13, kss.take 0, css, [], bls, true⟩
def b__law_bent_L5_1 : Sms := (.cons (.ret (.call "_law_odd" 8 (.cons (.var 0) .nil))) .nil)
def b__law_bent_L5_2 : Sms := (.cons (.iff (.ands (.isi (.var 1) .int) (.cons (.nt (.isi (.var 1) .bool)) (.cons (.cmp .eq (.call "_law_draw" 0 (.cons (.var 0) (.cons (.int 2) .nil))) (.int 0)) .nil))) (.cons (.ret (.call "_law_pick" 1 (.cons (.var 0) (.cons (.tup (.cons (.bin .add (.var 1) (.int 1)) (.cons (.neg (.var 1)) (.cons (.int 0) (.cons (.prim .str (.cons (.var 1) .nil)) (.cons (.tup (.cons (.var 1) .nil)) (.cons (.cmp .eq (.var 1) (.int 1)) (.cons (.bin .sub (.var 1) (.int 1)) (.cons .non .nil))))))))) .nil)))) .nil) .nil) b__law_bent_L5_1)
def b__law_bent_L5_3 : Sms := (.cons (.ret (.ife (.cmp .eq (.var 3) (.int 6)) (.bin .add (.slc (.var 1) .no (.ex (.var 2))) (.slc (.var 1) (.ex (.bin .add (.var 2) (.int 1))) .no)) (.bin .add (.slc (.var 1) .no (.ex (.bin .add (.var 2) (.int 1)))) (.slc (.var 1) (.ex (.var 2)) .no)))) .nil)
def b__law_bent_L5_4 : Sms := (.cons (.iff (.cmp .eq (.var 3) (.int 5)) (.cons (.ret (.prim .list (.cons (.var 1) .nil))) .nil) .nil) b__law_bent_L5_3)
def b__law_bent_L5_5 : Sms := (.cons (.iff (.cmp .lt (.var 3) (.int 5)) (.cons (.ret (.bin .add (.bin .add (.slc (.var 1) .no (.ex (.var 2))) (.tup (.cons (.call "_law_bent" 12 (.cons (.var 0) (.cons (.idx (.var 1) (.var 2)) .nil))) .nil))) (.slc (.var 1) (.ex (.bin .add (.var 2) (.int 1))) .no))) .nil) .nil) b__law_bent_L5_4)
def b__law_bent_L5 : Sms := (.cons (.iff (.ands (.isi (.var 1) .tuple) (.cons (.cmp .ne (.var 1) (.tup .nil)) .nil)) (.cons (.par 2 3 (.call "_law_draw" 0 (.cons (.var 0) (.cons (.prim .len (.cons (.var 1) .nil)) .nil))) (.call "_law_draw" 0 (.cons (.var 0) (.cons (.int 8) .nil)))) b__law_bent_L5_5) .nil) b__law_bent_L5_2)
theorem t__law_bent_L5 : okSs c__law_bent_L5 b__law_bent_L5 (fun _ => true) (defScope s__law_bent_L5) (defBody s__law_bent_L5) = true := by decide +kernel
theorem f__law_bent_L5 : FnScope n__law_bent_L5 ["_law_well_here", "_law_thing"] (defScope s__law_bent_L5) := ⟨rfl, rfl, rfl, by decide +kernel, rfl, by decide +kernel, by decide +kernel⟩
def n__law_bent_L6 : List Str := ["_law_well_here", "_law_thing", "_law_at", "_law_way"]
abbrev s__law_bent_L6 : Stmt := tops 35
def c__law_bent_L6 : CC := ⟨n__law_bent_L6, fss.take 14, kss.take 0, css, [], bls, true⟩
def b__law_bent_L6_1 : Sms := (.cons (.ret (.call "_law_odd" 8 (.cons (.var 0) .nil))) .nil)
def b__law_bent_L6_2 : Sms := (.cons (.iff (.ands (.isi (.var 1) .int) (.cons (.nt (.isi (.var 1) .bool)) (.cons (.cmp .eq (.call "_law_draw" 0 (.cons (.var 0) (.cons (.int 2) .nil))) (.int 0)) .nil))) (.cons (.ret (.call "_law_pick" 1 (.cons (.var 0) (.cons (.tup (.cons (.bin .add (.var 1) (.int 1)) (.cons (.neg (.var 1)) (.cons (.int 0) (.cons (.prim .str (.cons (.var 1) .nil)) (.cons (.tup (.cons (.var 1) .nil)) (.cons (.cmp .eq (.var 1) (.int 1)) (.cons (.bin .sub (.var 1) (.int 1)) (.cons .non .nil))))))))) .nil)))) .nil) .nil) b__law_bent_L6_1)
def b__law_bent_L6_3 : Sms := (.cons (.ret (.ife (.cmp .eq (.var 3) (.int 6)) (.bin .add (.slc (.var 1) .no (.ex (.var 2))) (.slc (.var 1) (.ex (.bin .add (.var 2) (.int 1))) .no)) (.bin .add (.slc (.var 1) .no (.ex (.bin .add (.var 2) (.int 1)))) (.slc (.var 1) (.ex (.var 2)) .no)))) .nil)
def b__law_bent_L6_4 : Sms := (.cons (.iff (.cmp .eq (.var 3) (.int 5)) (.cons (.ret (.prim .list (.cons (.var 1) .nil))) .nil) .nil) b__law_bent_L6_3)
def b__law_bent_L6_5 : Sms := (.cons (.iff (.cmp .lt (.var 3) (.int 5)) (.cons (.ret (.bin .add (.bin .add (.slc (.var 1) .no (.ex (.var 2))) (.tup (.cons (.call "_law_bent" 13 (.cons (.var 0) (.cons (.idx (.var 1) (.var 2)) .nil))) .nil))) (.slc (.var 1) (.ex (.bin .add (.var 2) (.int 1))) .no))) .nil) .nil) b__law_bent_L6_4)
def b__law_bent_L6 : Sms := (.cons (.iff (.ands (.isi (.var 1) .tuple) (.cons (.cmp .ne (.var 1) (.tup .nil)) .nil)) (.cons (.par 2 3 (.call "_law_draw" 0 (.cons (.var 0) (.cons (.prim .len (.cons (.var 1) .nil)) .nil))) (.call "_law_draw" 0 (.cons (.var 0) (.cons (.int 8) .nil)))) b__law_bent_L6_5) .nil) b__law_bent_L6_2)
theorem t__law_bent_L6 : okSs c__law_bent_L6 b__law_bent_L6 (fun _ => true) (defScope s__law_bent_L6) (defBody s__law_bent_L6) = true := by decide +kernel
theorem f__law_bent_L6 : FnScope n__law_bent_L6 ["_law_well_here", "_law_thing"] (defScope s__law_bent_L6) := ⟨rfl, rfl, rfl, by decide +kernel, rfl, by decide +kernel, by decide +kernel⟩
def n__law_bent_L7 : List Str := ["_law_well_here", "_law_thing", "_law_at", "_law_way"]
abbrev s__law_bent_L7 : Stmt := tops 35
def c__law_bent_L7 : CC := ⟨n__law_bent_L7, fss.take 15, kss.take 0, css, [], bls, true⟩
def b__law_bent_L7_1 : Sms := (.cons (.ret (.call "_law_odd" 8 (.cons (.var 0) .nil))) .nil)
def b__law_bent_L7_2 : Sms := (.cons (.iff (.ands (.isi (.var 1) .int) (.cons (.nt (.isi (.var 1) .bool)) (.cons (.cmp .eq (.call "_law_draw" 0 (.cons (.var 0) (.cons (.int 2) .nil))) (.int 0)) .nil))) (.cons (.ret (.call "_law_pick" 1 (.cons (.var 0) (.cons (.tup (.cons (.bin .add (.var 1) (.int 1)) (.cons (.neg (.var 1)) (.cons (.int 0) (.cons (.prim .str (.cons (.var 1) .nil)) (.cons (.tup (.cons (.var 1) .nil)) (.cons (.cmp .eq (.var 1) (.int 1)) (.cons (.bin .sub (.var 1) (.int 1)) (.cons .non .nil))))))))) .nil)))) .nil) .nil) b__law_bent_L7_1)
def b__law_bent_L7_3 : Sms := (.cons (.ret (.ife (.cmp .eq (.var 3) (.int 6)) (.bin .add (.slc (.var 1) .no (.ex (.var 2))) (.slc (.var 1) (.ex (.bin .add (.var 2) (.int 1))) .no)) (.bin .add (.slc (.var 1) .no (.ex (.bin .add (.var 2) (.int 1)))) (.slc (.var 1) (.ex (.var 2)) .no)))) .nil)
def b__law_bent_L7_4 : Sms := (.cons (.iff (.cmp .eq (.var 3) (.int 5)) (.cons (.ret (.prim .list (.cons (.var 1) .nil))) .nil) .nil) b__law_bent_L7_3)
def b__law_bent_L7_5 : Sms := (.cons (.iff (.cmp .lt (.var 3) (.int 5)) (.cons (.ret (.bin .add (.bin .add (.slc (.var 1) .no (.ex (.var 2))) (.tup (.cons (.call "_law_bent" 14 (.cons (.var 0) (.cons (.idx (.var 1) (.var 2)) .nil))) .nil))) (.slc (.var 1) (.ex (.bin .add (.var 2) (.int 1))) .no))) .nil) .nil) b__law_bent_L7_4)
def b__law_bent_L7 : Sms := (.cons (.iff (.ands (.isi (.var 1) .tuple) (.cons (.cmp .ne (.var 1) (.tup .nil)) .nil)) (.cons (.par 2 3 (.call "_law_draw" 0 (.cons (.var 0) (.cons (.prim .len (.cons (.var 1) .nil)) .nil))) (.call "_law_draw" 0 (.cons (.var 0) (.cons (.int 8) .nil)))) b__law_bent_L7_5) .nil) b__law_bent_L7_2)
theorem t__law_bent_L7 : okSs c__law_bent_L7 b__law_bent_L7 (fun _ => true) (defScope s__law_bent_L7) (defBody s__law_bent_L7) = true := by decide +kernel
theorem f__law_bent_L7 : FnScope n__law_bent_L7 ["_law_well_here", "_law_thing"] (defScope s__law_bent_L7) := ⟨rfl, rfl, rfl, by decide +kernel, rfl, by decide +kernel, by decide +kernel⟩
def n__law_bent_L8 : List Str := ["_law_well_here", "_law_thing", "_law_at", "_law_way"]
abbrev s__law_bent_L8 : Stmt := tops 35
def c__law_bent_L8 : CC := ⟨n__law_bent_L8, fss.take 16, kss.take 0, css, [], bls, true⟩
def b__law_bent_L8_1 : Sms := (.cons (.ret (.call "_law_odd" 8 (.cons (.var 0) .nil))) .nil)
def b__law_bent_L8_2 : Sms := (.cons (.iff (.ands (.isi (.var 1) .int) (.cons (.nt (.isi (.var 1) .bool)) (.cons (.cmp .eq (.call "_law_draw" 0 (.cons (.var 0) (.cons (.int 2) .nil))) (.int 0)) .nil))) (.cons (.ret (.call "_law_pick" 1 (.cons (.var 0) (.cons (.tup (.cons (.bin .add (.var 1) (.int 1)) (.cons (.neg (.var 1)) (.cons (.int 0) (.cons (.prim .str (.cons (.var 1) .nil)) (.cons (.tup (.cons (.var 1) .nil)) (.cons (.cmp .eq (.var 1) (.int 1)) (.cons (.bin .sub (.var 1) (.int 1)) (.cons .non .nil))))))))) .nil)))) .nil) .nil) b__law_bent_L8_1)
def b__law_bent_L8_3 : Sms := (.cons (.ret (.ife (.cmp .eq (.var 3) (.int 6)) (.bin .add (.slc (.var 1) .no (.ex (.var 2))) (.slc (.var 1) (.ex (.bin .add (.var 2) (.int 1))) .no)) (.bin .add (.slc (.var 1) .no (.ex (.bin .add (.var 2) (.int 1)))) (.slc (.var 1) (.ex (.var 2)) .no)))) .nil)
def b__law_bent_L8_4 : Sms := (.cons (.iff (.cmp .eq (.var 3) (.int 5)) (.cons (.ret (.prim .list (.cons (.var 1) .nil))) .nil) .nil) b__law_bent_L8_3)
def b__law_bent_L8_5 : Sms := (.cons (.iff (.cmp .lt (.var 3) (.int 5)) (.cons (.ret (.bin .add (.bin .add (.slc (.var 1) .no (.ex (.var 2))) (.tup (.cons (.call "_law_bent" 15 (.cons (.var 0) (.cons (.idx (.var 1) (.var 2)) .nil))) .nil))) (.slc (.var 1) (.ex (.bin .add (.var 2) (.int 1))) .no))) .nil) .nil) b__law_bent_L8_4)
def b__law_bent_L8 : Sms := (.cons (.iff (.ands (.isi (.var 1) .tuple) (.cons (.cmp .ne (.var 1) (.tup .nil)) .nil)) (.cons (.par 2 3 (.call "_law_draw" 0 (.cons (.var 0) (.cons (.prim .len (.cons (.var 1) .nil)) .nil))) (.call "_law_draw" 0 (.cons (.var 0) (.cons (.int 8) .nil)))) b__law_bent_L8_5) .nil) b__law_bent_L8_2)
theorem t__law_bent_L8 : okSs c__law_bent_L8 b__law_bent_L8 (fun _ => true) (defScope s__law_bent_L8) (defBody s__law_bent_L8) = true := by decide +kernel
theorem f__law_bent_L8 : FnScope n__law_bent_L8 ["_law_well_here", "_law_thing"] (defScope s__law_bent_L8) := ⟨rfl, rfl, rfl, by decide +kernel, rfl, by decide +kernel, by decide +kernel⟩
def n__law_bent_L9 : List Str := ["_law_well_here", "_law_thing", "_law_at", "_law_way"]
abbrev s__law_bent_L9 : Stmt := tops 35
def c__law_bent_L9 : CC := ⟨n__law_bent_L9, fss.take 17, kss.take 0, css, [], bls, true⟩
def b__law_bent_L9_1 : Sms := (.cons (.ret (.call "_law_odd" 8 (.cons (.var 0) .nil))) .nil)
def b__law_bent_L9_2 : Sms := (.cons (.iff (.ands (.isi (.var 1) .int) (.cons (.nt (.isi (.var 1) .bool)) (.cons (.cmp .eq (.call "_law_draw" 0 (.cons (.var 0) (.cons (.int 2) .nil))) (.int 0)) .nil))) (.cons (.ret (.call "_law_pick" 1 (.cons (.var 0) (.cons (.tup (.cons (.bin .add (.var 1) (.int 1)) (.cons (.neg (.var 1)) (.cons (.int 0) (.cons (.prim .str (.cons (.var 1) .nil)) (.cons (.tup (.cons (.var 1) .nil)) (.cons (.cmp .eq (.var 1) (.int 1)) (.cons (.bin .sub (.var 1) (.int 1)) (.cons .non .nil))))))))) .nil)))) .nil) .nil) b__law_bent_L9_1)
def b__law_bent_L9_3 : Sms := (.cons (.ret (.ife (.cmp .eq (.var 3) (.int 6)) (.bin .add (.slc (.var 1) .no (.ex (.var 2))) (.slc (.var 1) (.ex (.bin .add (.var 2) (.int 1))) .no)) (.bin .add (.slc (.var 1) .no (.ex (.bin .add (.var 2) (.int 1)))) (.slc (.var 1) (.ex (.var 2)) .no)))) .nil)
def b__law_bent_L9_4 : Sms := (.cons (.iff (.cmp .eq (.var 3) (.int 5)) (.cons (.ret (.prim .list (.cons (.var 1) .nil))) .nil) .nil) b__law_bent_L9_3)
def b__law_bent_L9_5 : Sms := (.cons (.iff (.cmp .lt (.var 3) (.int 5)) (.cons (.ret (.bin .add (.bin .add (.slc (.var 1) .no (.ex (.var 2))) (.tup (.cons (.call "_law_bent" 16 (.cons (.var 0) (.cons (.idx (.var 1) (.var 2)) .nil))) .nil))) (.slc (.var 1) (.ex (.bin .add (.var 2) (.int 1))) .no))) .nil) .nil) b__law_bent_L9_4)
def b__law_bent_L9 : Sms := (.cons (.iff (.ands (.isi (.var 1) .tuple) (.cons (.cmp .ne (.var 1) (.tup .nil)) .nil)) (.cons (.par 2 3 (.call "_law_draw" 0 (.cons (.var 0) (.cons (.prim .len (.cons (.var 1) .nil)) .nil))) (.call "_law_draw" 0 (.cons (.var 0) (.cons (.int 8) .nil)))) b__law_bent_L9_5) .nil) b__law_bent_L9_2)
theorem t__law_bent_L9 : okSs c__law_bent_L9 b__law_bent_L9 (fun _ => true) (defScope s__law_bent_L9) (defBody s__law_bent_L9) = true := by decide +kernel
theorem f__law_bent_L9 : FnScope n__law_bent_L9 ["_law_well_here", "_law_thing"] (defScope s__law_bent_L9) := ⟨rfl, rfl, rfl, by decide +kernel, rfl, by decide +kernel, by decide +kernel⟩
def n__law_bent_L10 : List Str := ["_law_well_here", "_law_thing", "_law_at", "_law_way"]
abbrev s__law_bent_L10 : Stmt := tops 35
def c__law_bent_L10 : CC := ⟨n__law_bent_L10, fss.take 18, kss.take 0, css, [], bls, true⟩
def b__law_bent_L10_1 : Sms := (.cons (.ret (.call "_law_odd" 8 (.cons (.var 0) .nil))) .nil)
def b__law_bent_L10_2 : Sms := (.cons (.iff (.ands (.isi (.var 1) .int) (.cons (.nt (.isi (.var 1) .bool)) (.cons (.cmp .eq (.call "_law_draw" 0 (.cons (.var 0) (.cons (.int 2) .nil))) (.int 0)) .nil))) (.cons (.ret (.call "_law_pick" 1 (.cons (.var 0) (.cons (.tup (.cons (.bin .add (.var 1) (.int 1)) (.cons (.neg (.var 1)) (.cons (.int 0) (.cons (.prim .str (.cons (.var 1) .nil)) (.cons (.tup (.cons (.var 1) .nil)) (.cons (.cmp .eq (.var 1) (.int 1)) (.cons (.bin .sub (.var 1) (.int 1)) (.cons .non .nil))))))))) .nil)))) .nil) .nil) b__law_bent_L10_1)
def b__law_bent_L10_3 : Sms := (.cons (.ret (.ife (.cmp .eq (.var 3) (.int 6)) (.bin .add (.slc (.var 1) .no (.ex (.var 2))) (.slc (.var 1) (.ex (.bin .add (.var 2) (.int 1))) .no)) (.bin .add (.slc (.var 1) .no (.ex (.bin .add (.var 2) (.int 1)))) (.slc (.var 1) (.ex (.var 2)) .no)))) .nil)
def b__law_bent_L10_4 : Sms := (.cons (.iff (.cmp .eq (.var 3) (.int 5)) (.cons (.ret (.prim .list (.cons (.var 1) .nil))) .nil) .nil) b__law_bent_L10_3)
def b__law_bent_L10_5 : Sms := (.cons (.iff (.cmp .lt (.var 3) (.int 5)) (.cons (.ret (.bin .add (.bin .add (.slc (.var 1) .no (.ex (.var 2))) (.tup (.cons (.call "_law_bent" 17 (.cons (.var 0) (.cons (.idx (.var 1) (.var 2)) .nil))) .nil))) (.slc (.var 1) (.ex (.bin .add (.var 2) (.int 1))) .no))) .nil) .nil) b__law_bent_L10_4)
def b__law_bent_L10 : Sms := (.cons (.iff (.ands (.isi (.var 1) .tuple) (.cons (.cmp .ne (.var 1) (.tup .nil)) .nil)) (.cons (.par 2 3 (.call "_law_draw" 0 (.cons (.var 0) (.cons (.prim .len (.cons (.var 1) .nil)) .nil))) (.call "_law_draw" 0 (.cons (.var 0) (.cons (.int 8) .nil)))) b__law_bent_L10_5) .nil) b__law_bent_L10_2)
theorem t__law_bent_L10 : okSs c__law_bent_L10 b__law_bent_L10 (fun _ => true) (defScope s__law_bent_L10) (defBody s__law_bent_L10) = true := by decide +kernel
theorem f__law_bent_L10 : FnScope n__law_bent_L10 ["_law_well_here", "_law_thing"] (defScope s__law_bent_L10) := ⟨rfl, rfl, rfl, by decide +kernel, rfl, by decide +kernel, by decide +kernel⟩
def n__law_is_square : List Str := ["_law_thing", "_law_line"]
abbrev s__law_is_square : Stmt := tops 37
def c__law_is_square : CC := ⟨n__law_is_square, fss.take 19, kss.take 0, css, [], bls, true⟩
def b__law_is_square_1 : Sms := (.cons (.ret (.bl true)) .nil)
def b__law_is_square_2 : Sms := (.cons (.iff (.ors (.nt (.isi (.var 1) .tuple)) (.cons (.cmp .ne (.prim .len (.cons (.var 1) .nil)) (.prim .len (.cons (.var 0) .nil))) .nil)) (.cons (.ret (.bl false)) .nil) .nil) .nil)
def b__law_is_square_3 : Sms := (.cons (.forr (.nm 1) (.seq (.var 0)) b__law_is_square_2) b__law_is_square_1)
def b__law_is_square : Sms := (.cons (.iff (.ors (.nt (.isi (.var 0) .tuple)) (.cons (.cmp .eq (.var 0) (.tup .nil)) .nil)) (.cons (.ret (.bl false)) .nil) .nil) b__law_is_square_3)
theorem t__law_is_square : okSs c__law_is_square b__law_is_square (fun _ => true) (defScope s__law_is_square) (defBody s__law_is_square) = true := by decide +kernel
theorem f__law_is_square : FnScope n__law_is_square ["_law_thing"] (defScope s__law_is_square) := ⟨rfl, rfl, rfl, by decide +kernel, rfl, by decide +kernel, by decide +kernel⟩
def n__law_is_whole : List Str := ["_law_thing"]
abbrev s__law_is_whole : Stmt := tops 36
def c__law_is_whole : CC := ⟨n__law_is_whole, fss.take 20, kss.take 0, css, [], bls, true⟩
def b__law_is_whole : Sms := (.cons (.ret (.ands (.isi (.var 0) .int) (.cons (.nt (.isi (.var 0) .bool)) .nil))) .nil)
theorem t__law_is_whole : okSs c__law_is_whole b__law_is_whole (fun _ => true) (defScope s__law_is_whole) (defBody s__law_is_whole) = true := by decide +kernel
theorem f__law_is_whole : FnScope n__law_is_whole ["_law_thing"] (defScope s__law_is_whole) := ⟨rfl, rfl, rfl, by decide +kernel, rfl, by decide +kernel, by decide +kernel⟩
def n__law_is_grid : List Str := ["_law_thing", "_law_line", "_law_each"]
abbrev s__law_is_grid : Stmt := tops 38
def c__law_is_grid : CC := ⟨n__law_is_grid, fss.take 21, kss.take 0, css, [], bls, true⟩
def b__law_is_grid_1 : Sms := (.cons (.ret (.bl true)) .nil)
def b__law_is_grid_2 : Sms := (.cons (.iff (.ands (.cmp .notN (.var 2) .non) (.cons (.ors (.nt (.call "_law_is_whole" 20 (.cons (.var 2) .nil))) (.cons (.cmp .lt (.var 2) (.int 0)) .nil)) .nil)) (.cons (.ret (.bl false)) .nil) .nil) .nil)
def b__law_is_grid_3 : Sms := (.cons (.forr (.nm 2) (.seq (.var 1)) b__law_is_grid_2) .nil)
def b__law_is_grid_4 : Sms := (.cons (.forr (.nm 1) (.seq (.var 0)) b__law_is_grid_3) b__law_is_grid_1)
def b__law_is_grid : Sms := (.cons (.iff (.nt (.call "_law_is_square" 19 (.cons (.var 0) .nil))) (.cons (.ret (.bl false)) .nil) .nil) b__law_is_grid_4)
theorem t__law_is_grid : okSs c__law_is_grid b__law_is_grid (fun _ => true) (defScope s__law_is_grid) (defBody s__law_is_grid) = true := by decide +kernel
theorem f__law_is_grid : FnScope n__law_is_grid ["_law_thing"] (defScope s__law_is_grid) := ⟨rfl, rfl, rfl, by decide +kernel, rfl, by decide +kernel, by decide +kernel⟩
def n__law_is_fraction : List Str := ["_law_thing"]
abbrev s__law_is_fraction : Stmt := tops 39
def c__law_is_fraction : CC := ⟨n__law_is_fraction, fss.take 22, kss.take 0, css, [], bls, true⟩
def b__law_is_fraction_1 : Sms := (.cons (.ret (.ands (.cmp .gt (.idx (.var 0) (.int 1)) (.int 0)) (.cons (.cmp .eq (.call "_law_ratio" 4 (.cons (.idx (.var 0) (.int 0)) (.cons (.idx (.var 0) (.int 1)) .nil))) (.var 0)) .nil))) .nil)
def b__law_is_fraction : Sms := (.cons (.iff (.ors (.nt (.isi (.var 0) .tuple)) (.cons (.cmp .ne (.prim .len (.cons (.var 0) .nil)) (.int 2)) (.cons (.nt (.call "_law_is_whole" 20 (.cons (.idx (.var 0) (.int 0)) .nil))) (.cons (.nt (.call "_law_is_whole" 20 (.cons (.idx (.var 0) (.int 1)) .nil))) .nil)))) (.cons (.ret (.bl false)) .nil) .nil) b__law_is_fraction_1)
theorem t__law_is_fraction : okSs c__law_is_fraction b__law_is_fraction (fun _ => true) (defScope s__law_is_fraction) (defBody s__law_is_fraction) = true := by decide +kernel
theorem f__law_is_fraction : FnScope n__law_is_fraction ["_law_thing"] (defScope s__law_is_fraction) := ⟨rfl, rfl, rfl, by decide +kernel, rfl, by decide +kernel, by decide +kernel⟩
def n__law_is_polynomial : List Str := ["_law_thing", "_law_each"]
abbrev s__law_is_polynomial : Stmt := tops 40
def c__law_is_polynomial : CC := ⟨n__law_is_polynomial, fss.take 23, kss.take 0, css, [], bls, true⟩
def b__law_is_polynomial_1 : Sms := (.cons (.ret (.ors (.cmp .eq (.var 0) (.tup .nil)) (.cons (.cmp .ne (.idx (.idx (.var 0) (.bin .sub (.prim .len (.cons (.var 0) .nil)) (.int 1))) (.int 0)) (.int 0)) .nil))) .nil)
def e__law_is_polynomial_2 : Ex := (.nt (.call "_law_is_fraction" 22 (.cons (.var 1) .nil)))
def b__law_is_polynomial : Sms := (.cons (.iff (.ors (.nt (.isi (.var 0) .tuple)) (.cons (.cmp .ne (.lc [("_law_each", 1)] (.var 1) (.nm 1) (.seq (.var 0)) (.ex e__law_is_polynomial_2)) (.lst .nil)) .nil)) (.cons (.ret (.bl false)) .nil) .nil) b__law_is_polynomial_1)
theorem t__law_is_polynomial : okSs c__law_is_polynomial b__law_is_polynomial (fun _ => true) (defScope s__law_is_polynomial) (defBody s__law_is_polynomial) = true := by decide +kernel
theorem f__law_is_polynomial : FnScope n__law_is_polynomial ["_law_thing"] (defScope s__law_is_polynomial) := ⟨rfl, rfl, rfl, by decide +kernel, rfl, by decide +kernel, by decide +kernel⟩
def n__law_is_sheet : List Str := ["_law_thing", "_law_line", "_law_each"]
abbrev s__law_is_sheet : Stmt := tops 41
def c__law_is_sheet : CC := ⟨n__law_is_sheet, fss.take 24, kss.take 0, css, [], bls, true⟩
def b__law_is_sheet_1 : Sms := (.cons (.ret (.bl true)) .nil)
def e__law_is_sheet_2 : Ex := (.nt (.call "_law_is_polynomial" 23 (.cons (.var 2) .nil)))
def b__law_is_sheet_3 : Sms := (.cons (.iff (.cmp .ne (.lc [("_law_each", 2)] (.var 2) (.nm 2) (.seq (.var 1)) (.ex e__law_is_sheet_2)) (.lst .nil)) (.cons (.ret (.bl false)) .nil) .nil) .nil)
def b__law_is_sheet_4 : Sms := (.cons (.forr (.nm 1) (.seq (.var 0)) b__law_is_sheet_3) b__law_is_sheet_1)
def b__law_is_sheet : Sms := (.cons (.iff (.nt (.call "_law_is_square" 19 (.cons (.var 0) .nil))) (.cons (.ret (.bl false)) .nil) .nil) b__law_is_sheet_4)
theorem t__law_is_sheet : okSs c__law_is_sheet b__law_is_sheet (fun _ => true) (defScope s__law_is_sheet) (defBody s__law_is_sheet) = true := by decide +kernel
theorem f__law_is_sheet : FnScope n__law_is_sheet ["_law_thing"] (defScope s__law_is_sheet) := ⟨rfl, rfl, rfl, by decide +kernel, rfl, by decide +kernel, by decide +kernel⟩
def n__law_orders : List Str := ["_law_rows", "_law_line", "_law_each"]
abbrev s__law_orders : Stmt := tops 33
def c__law_orders : CC := ⟨n__law_orders, fss.take 25, kss.take 0, css, [], bls, true⟩
def e__law_orders_1 : Ex := (.ife (.cmp .ne (.var 2) (.tup .nil)) (.bin .sub (.prim .len (.cons (.var 2) .nil)) (.int 1)) .non)
def e__law_orders_2 : Ex := (.prim .tuple (.cons (.lc [("_law_each", 2)] e__law_orders_1 (.nm 2) (.seq (.var 1)) .no) .nil))
def b__law_orders : Sms := (.cons (.ret (.prim .tuple (.cons (.lc [("_law_line", 1)] e__law_orders_2 (.nm 1) (.seq (.var 0)) .no) .nil))) .nil)
theorem t__law_orders : okSs c__law_orders b__law_orders (fun _ => true) (defScope s__law_orders) (defBody s__law_orders) = true := by decide +kernel
theorem f__law_orders : FnScope n__law_orders ["_law_rows"] (defScope s__law_orders) := ⟨rfl, rfl, rfl, by decide +kernel, rfl, by decide +kernel, by decide +kernel⟩
def n_is_whole : List Str := ["value"]
abbrev s_is_whole : Stmt := tops 5
def c_is_whole : CC := ⟨n_is_whole, fss.take 26, kss.take 0, css, [], bls, true⟩
def b_is_whole : Sms := (.cons (.ret (.ands (.isi (.var 0) .int) (.cons (.nt (.isi (.var 0) .bool)) .nil))) .nil)
theorem t_is_whole : okSs c_is_whole b_is_whole (fun _ => true) (defScope s_is_whole) (defBody s_is_whole) = true := by decide +kernel
theorem f_is_whole : FnScope n_is_whole ["value"] (defScope s_is_whole) := ⟨rfl, rfl, rfl, by decide +kernel, rfl, by decide +kernel, by decide +kernel⟩
def n_are_wholes : List Str := ["value", "many", "each"]
abbrev s_are_wholes : Stmt := tops 6
def c_are_wholes : CC := ⟨n_are_wholes, fss.take 27, kss.take 0, css, [], bls, true⟩
def e_are_wholes_1 : Ex := (.call "is_whole" 26 (.cons (.var 2) .nil))
def b_are_wholes : Sms := (.cons (.ret (.ands (.isi (.var 0) .tuple) (.cons (.cmp .eq (.prim .len (.cons (.var 0) .nil)) (.var 1)) (.cons (.prim .all (.cons (.lc [("each", 2)] e_are_wholes_1 (.nm 2) (.seq (.var 0)) .no) .nil)) .nil)))) .nil)
theorem t_are_wholes : okSs c_are_wholes b_are_wholes (fun _ => true) (defScope s_are_wholes) (defBody s_are_wholes) = true := by decide +kernel
theorem f_are_wholes : FnScope n_are_wholes ["value", "many"] (defScope s_are_wholes) := ⟨rfl, rfl, rfl, by decide +kernel, rfl, by decide +kernel, by decide +kernel⟩
def n_divisor_of : List Str := ["numbers", "found", "each"]
abbrev s_divisor_of : Stmt := tops 7
def c_divisor_of : CC := ⟨n_divisor_of, fss.take 28, kss.take 0, css, [], bls, true⟩
def b_divisor_of_1 : Sms := (.cons (.retv 1) .nil)
def b_divisor_of_2 : Sms := (.cons (.set 1 (.prim .gcd (.cons (.var 1) (.cons (.var 2) .nil)))) .nil)
def b_divisor_of : Sms := (.cons (.set 1 (.int 0)) (.cons (.forr (.nm 2) (.seq (.var 0)) b_divisor_of_2) b_divisor_of_1))
theorem t_divisor_of : okSs c_divisor_of b_divisor_of (fun _ => true) (defScope s_divisor_of) (defBody s_divisor_of) = true := by decide +kernel
theorem f_divisor_of : FnScope n_divisor_of ["numbers"] (defScope s_divisor_of) := ⟨rfl, rfl, rfl, by decide +kernel, rfl, by decide +kernel, by decide +kernel⟩
def n_is_ratio : List Str := ["value"]
abbrev s_is_ratio : Stmt := tops 9
def c_is_ratio : CC := ⟨n_is_ratio, fss.take 29, kss.take 0, css, [], bls, true⟩
def b_is_ratio : Sms := (.cons (.ret (.ands (.call "are_wholes" 27 (.cons (.var 0) (.cons (.int 2) .nil))) (.cons (.cmp .gt (.idx (.var 0) (.int 1)) (.int 0)) (.cons (.cmp .eq (.call "divisor_of" 28 (.cons (.var 0) .nil)) (.int 1)) .nil)))) .nil)
theorem t_is_ratio : okSs c_is_ratio b_is_ratio (fun _ => true) (defScope s_is_ratio) (defBody s_is_ratio) = true := by decide +kernel
theorem f_is_ratio : FnScope n_is_ratio ["value"] (defScope s_is_ratio) := ⟨rfl, rfl, rfl, by decide +kernel, rfl, by decide +kernel, by decide +kernel⟩
def n_is_poly : List Str := ["value", "each"]
abbrev s_is_poly : Stmt := tops 12
def c_is_poly : CC := ⟨n_is_poly, fss.take 30, kss.take 0, css, [], bls, true⟩
def b_is_poly_1 : Sms := (.cons (.ret (.ors (.cmp .eq (.var 0) (.tup .nil)) (.cons (.cmp .ne (.idx (.idx (.var 0) (.neg (.int 1))) (.int 0)) (.int 0)) .nil))) .nil)
def e_is_poly_2 : Ex := (.call "is_ratio" 29 (.cons (.var 1) .nil))
def b_is_poly : Sms := (.cons (.iff (.ors (.nt (.isi (.var 0) .tuple)) (.cons (.nt (.prim .all (.cons (.lc [("each", 1)] e_is_poly_2 (.nm 1) (.seq (.var 0)) .no) .nil))) .nil)) (.cons (.ret (.bl false)) .nil) .nil) b_is_poly_1)
theorem t_is_poly : okSs c_is_poly b_is_poly (fun _ => true) (defScope s_is_poly) (defBody s_is_poly) = true := by decide +kernel
theorem f_is_poly : FnScope n_is_poly ["value"] (defScope s_is_poly) := ⟨rfl, rfl, rfl, by decide +kernel, rfl, by decide +kernel, by decide +kernel⟩
def n_is_entry : List Str := ["value"]
abbrev s_is_entry : Stmt := tops 14
def c_is_entry : CC := ⟨n_is_entry, fss.take 31, kss.take 0, css, [], bls, true⟩
def b_is_entry : Sms := (.cons (.ret (.ors (.cmp .isN (.var 0) .non) (.cons (.ands (.call "is_whole" 26 (.cons (.var 0) .nil)) (.cons (.cmp .ge (.var 0) (.int 0)) .nil)) .nil))) .nil)
theorem t_is_entry : okSs c_is_entry b_is_entry (fun _ => true) (defScope s_is_entry) (defBody s_is_entry) = true := by decide +kernel
theorem f_is_entry : FnScope n_is_entry ["value"] (defScope s_is_entry) := ⟨rfl, rfl, rfl, by decide +kernel, rfl, by decide +kernel, by decide +kernel⟩
def n_is_square_of : List Str := ["value", "test", "many", "row", "each"]
abbrev s_is_square_of : Stmt := tops 13
def c_is_square_of : CC := ⟨n_is_square_of, fss.take 32, kss.take 0, css, [], bls, true⟩
def e_is_square_of_1 : Ex := (.callv 1 (.cons (.var 4) .nil))
def e_is_square_of_2 : Ex := (.ands (.isi (.var 3) .tuple) (.cons (.cmp .eq (.prim .len (.cons (.var 3) .nil)) (.var 2)) (.cons (.prim .all (.cons (.lc [("each", 4)] e_is_square_of_1 (.nm 4) (.seq (.var 3)) .no) .nil)) .nil)))
def b_is_square_of_3 : Sms := (.cons (.set 2 (.prim .len (.cons (.var 0) .nil))) (.cons (.ret (.prim .all (.cons (.lc [("row", 3)] e_is_square_of_2 (.nm 3) (.seq (.var 0)) .no) .nil))) .nil))
def b_is_square_of : Sms := (.cons (.iff (.ors (.nt (.isi (.var 0) .tuple)) (.cons (.cmp .eq (.var 0) (.tup .nil)) .nil)) (.cons (.ret (.bl false)) .nil) .nil) b_is_square_of_3)
theorem t_is_square_of : okSs c_is_square_of b_is_square_of (fun _ => true) (defScope s_is_square_of) (defBody s_is_square_of) = true := by decide +kernel
theorem f_is_square_of : FnScope n_is_square_of ["value", "test"] (defScope s_is_square_of) := ⟨rfl, rfl, rfl, by decide +kernel, rfl, by decide +kernel, by decide +kernel⟩
def n_is_modelled : List Str := ["value"]
abbrev s_is_modelled : Stmt := tops 15
def c_is_modelled : CC := ⟨n_is_modelled, fss.take 33, kss.take 0, css, [], bls, true⟩
def b_is_modelled : Sms := (.cons (.ret (.call "is_square_of" 32 (.cons (.var 0) (.cons (.fnc "is_poly" 30) .nil)))) .nil)
theorem t_is_modelled : okSs c_is_modelled b_is_modelled (fun _ => true) (defScope s_is_modelled) (defBody s_is_modelled) = true := by decide +kernel
theorem f_is_modelled : FnScope n_is_modelled ["value"] (defScope s_is_modelled) := ⟨rfl, rfl, rfl, by decide +kernel, rfl, by decide +kernel, by decide +kernel⟩
def n_check_model : List Str := ["value"]
abbrev s_check_model : Stmt := tops 17
def c_check_model : CC := ⟨n_check_model, fss.take 34, kss.take 0, css, ess, bls, true⟩
def b_check_model : Sms := (.cons (.iff (.nt (.call "is_modelled" 33 (.cons (.var 0) .nil))) (.cons (.rse "InvalidModel" 0 (.cons (.var 0) .nil)) .nil) .nil) .nil)
theorem t_check_model : okSs c_check_model b_check_model (fun _ => true) (defScope s_check_model) (defBody s_check_model) = true := by decide +kernel
theorem f_check_model : FnScope n_check_model ["value"] (defScope s_check_model) := ⟨rfl, rfl, rfl, by decide +kernel, rfl, by decide +kernel, by decide +kernel⟩
def n_pattern_by : List Str := ["model", "row", "each"]
abbrev s_pattern_by : Stmt := tops 18
def c_pattern_by : CC := ⟨n_pattern_by, fss.take 35, kss.take 0, css, [], bls, true⟩
def e_pattern_by_1 : Ex := (.ife (.cmp .ne (.var 2) (.cst "NOUGHT" 0)) (.bin .sub (.prim .len (.cons (.var 2) .nil)) (.int 1)) .non)
def e_pattern_by_2 : Ex := (.prim .tuple (.cons (.lc [("each", 2)] e_pattern_by_1 (.nm 2) (.seq (.var 1)) .no) .nil))
def b_pattern_by : Sms := (.cons (.ret (.prim .tuple (.cons (.lc [("row", 1)] e_pattern_by_2 (.nm 1) (.seq (.var 0)) .no) .nil))) .nil)
theorem t_pattern_by : okSs c_pattern_by b_pattern_by (fun _ => true) (defScope s_pattern_by) (defBody s_pattern_by) = true := by decide +kernel
theorem f_pattern_by : FnScope n_pattern_by ["model"] (defScope s_pattern_by) := ⟨rfl, rfl, rfl, by decide +kernel, rfl, by decide +kernel, by decide +kernel⟩
def n_pattern_of : List Str := ["model"]
abbrev s_pattern_of : Stmt := tops 22
def c_pattern_of : CC := ⟨n_pattern_of, fss.take 36, kss.take 0, css, [], bls, true⟩
def b_pattern_of_1 : Sms := (.cons (.ret (.call "pattern_by" 35 (.cons (.var 0) .nil))) .nil)
def b_pattern_of : Sms := (.cons (.expr (.call "check_model" 34 (.cons (.var 0) .nil))) b_pattern_of_1)
theorem t_pattern_of : okSs c_pattern_of b_pattern_of (fun _ => true) (defScope s_pattern_of) (defBody s_pattern_of) = true := by decide +kernel
theorem f_pattern_of : FnScope n_pattern_of ["model"] (defScope s_pattern_of) := ⟨rfl, rfl, rfl, by decide +kernel, rfl, by decide +kernel, by decide +kernel⟩
def n__law_said : List Str := ["_law_thing", "fault"]
abbrev s__law_said : Stmt := tops 42
def c__law_said : CC := ⟨n__law_said, fss.take 37, kss.take 0, css, ess, bls, true⟩
def b__law_said_1 : Sms := (.cons (.ret (.tup (.cons (.str "told") (.cons (.call "pattern_of" 36 (.cons (.var 0) .nil)) .nil)))) .nil)
def b__law_said : Sms := (.cons (.tryx b__law_said_1 "InvalidModel" 0 (.tag "fault" 1 "given" "refused")) .nil)
theorem t__law_said : okSs c__law_said b__law_said (fun _ => true) (defScope s__law_said) (defBody s__law_said) = true := by decide +kernel
theorem f__law_said : FnScope n__law_said ["_law_thing"] (defScope s__law_said) := ⟨rfl, rfl, rfl, by decide +kernel, rfl, by decide +kernel, by decide +kernel⟩
def n_is_patterned : List Str := ["value"]
abbrev s_is_patterned : Stmt := tops 16
def c_is_patterned : CC := ⟨n_is_patterned, fss.take 38, kss.take 0, css, [], bls, true⟩
def b_is_patterned : Sms := (.cons (.ret (.call "is_square_of" 32 (.cons (.var 0) (.cons (.fnc "is_entry" 31) .nil)))) .nil)
theorem t_is_patterned : okSs c_is_patterned b_is_patterned (fun _ => true) (defScope s_is_patterned) (defBody s_is_patterned) = true := by decide +kernel
theorem f_is_patterned : FnScope n_is_patterned ["value"] (defScope s_is_patterned) := ⟨rfl, rfl, rfl, by decide +kernel, rfl, by decide +kernel, by decide +kernel⟩
def n_is_pattern : List Str := ["value"]
abbrev s_is_pattern : Stmt := tops 21
def c_is_pattern : CC := ⟨n_is_pattern, fss.take 39, kss.take 0, css, [], bls, true⟩
def b_is_pattern : Sms := (.cons (.ret (.call "is_patterned" 38 (.cons (.var 0) .nil))) .nil)
theorem t_is_pattern : okSs c_is_pattern b_is_pattern (fun _ => true) (defScope s_is_pattern) (defBody s_is_pattern) = true := by decide +kernel
theorem f_is_pattern : FnScope n_is_pattern ["value"] (defScope s_is_pattern) := ⟨rfl, rfl, rfl, by decide +kernel, rfl, by decide +kernel, by decide +kernel⟩
def n_is_model : List Str := ["value"]
abbrev s_is_model : Stmt := tops 20
def c_is_model : CC := ⟨n_is_model, fss.take 40, kss.take 1, css, [], bls, true⟩
def b_is_model : Sms := (.cons (.ret (.call "is_modelled" 33 (.cons (.var 0) .nil))) .nil)
theorem t_is_model : okSs c_is_model b_is_model (fun _ => true) (defScope s_is_model) (defBody s_is_model) = true := by decide +kernel
theorem f_is_model : FnScope n_is_model ["value"] (defScope s_is_model) := ⟨rfl, rfl, rfl, by decide +kernel, rfl, by decide +kernel, by decide +kernel⟩
def n__law_right : List Str := ["_law_well_here", "_law_rows", "_law_things", "_law_thing", "_law_dues", "_law_due"]
abbrev s__law_right : Stmt := tops 43
def c__law_right : CC := ⟨n__law_right, fss.take 41, kss.take 2, css, [], bls, true⟩
def b__law_right_1 : Sms := (.cons (.ret (.bl true)) .nil)
def b__law_right_2 : Sms := (.cons (.iff (.cmp .ne (.prim .repr (.cons (.call "_law_said" 37 (.cons (.var 3) .nil)) .nil)) (.prim .repr (.cons (.var 5) .nil))) (.cons (.ret (.bl false)) .nil) .nil) .nil)
def b__law_right_3 : Sms := (.cons (.set 5 (.ife (.idx (.var 4) (.int 1)) (.tup (.cons (.str "told") (.cons (.call "_law_orders" 25 (.cons (.var 3) .nil)) .nil))) (.tup (.cons (.str "refused") (.cons (.var 3) .nil))))) b__law_right_2)
def b__law_right_4 : Sms := (.cons (.iff (.cmp .ne (.prim .repr (.cons (.lst (.cons (.callk "is_pattern" 0 .nil (.cons (.var 3) .nil)) (.cons (.callk "is_model" 1 .nil (.cons (.var 3) .nil)) .nil))) .nil)) (.prim .repr (.cons (.var 4) .nil))) (.cons (.ret (.bl false)) .nil) .nil) b__law_right_3)
def b__law_right_5 : Sms := (.cons (.iff (.cmp .ne (.prim .repr (.cons (.lst (.cons (.call "is_pattern" 39 (.cons (.var 3) .nil)) (.cons (.call "is_model" 40 (.cons (.var 3) .nil)) .nil))) .nil)) (.prim .repr (.cons (.var 4) .nil))) (.cons (.ret (.bl false)) .nil) .nil) b__law_right_4)
def b__law_right_6 : Sms := (.cons (.set 4 (.lst (.cons (.call "_law_is_grid" 21 (.cons (.var 3) .nil)) (.cons (.call "_law_is_sheet" 24 (.cons (.var 3) .nil)) .nil)))) b__law_right_5)
def b__law_right_7 : Sms := (.cons (.forr (.nm 3) (.seq (.var 2)) b__law_right_6) b__law_right_1)
def b__law_right_8 : Sms := (.cons (.app 2 (.call "_law_odd" 8 (.cons (.var 0) .nil))) b__law_right_7)
def b__law_right_9 : Sms := (.cons (.app 2 (.call "_law_bent" 18 (.cons (.var 0) (.cons (.call "_law_bent" 18 (.cons (.var 0) (.cons (.pur (.idx (.var 2) (.int 1))) .nil))) .nil)))) b__law_right_8)
def b__law_right_10 : Sms := (.cons (.app 2 (.call "_law_bent" 18 (.cons (.var 0) (.cons (.pur (.idx (.var 2) (.int 1))) .nil)))) b__law_right_9)
def b__law_right_11 : Sms := (.cons (.app 2 (.call "_law_bent" 18 (.cons (.var 0) (.cons (.pur (.idx (.var 2) (.int 0))) .nil)))) b__law_right_10)
def b__law_right_12 : Sms := (.cons (.set 2 (.lst (.cons (.var 1) (.cons (.call "_law_sheet" 7 (.cons (.var 0) (.cons (.var 1) .nil))) .nil)))) b__law_right_11)
def b__law_right : Sms := (.cons (.set 1 (.call "_law_grid" 3 (.cons (.var 0) (.cons (.int 3) .nil)))) b__law_right_12)
theorem t__law_right : okSs c__law_right b__law_right (fun _ => true) (defScope s__law_right) (defBody s__law_right) = true := by decide +kernel
theorem f__law_right : FnScope n__law_right ["_law_well_here"] (defScope s__law_right) := ⟨rfl, rfl, rfl, by decide +kernel, rfl, by decide +kernel, by decide +kernel⟩
def n__law_well : List Str := ["_law_script", "_law_spot", "_law_seed", "_law_cell", "_law_great"]
abbrev s__law_well : Stmt := tops 24
def c__law_well : CC := ⟨n__law_well, fss.take 42, kss.take 2, css, [], bls, true⟩
def b__law_well_1 : Sms := (.cons (.set 3 (.ife (.cmp .lt (.var 1) (.prim .len (.cons (.var 0) .nil))) (.prim .int (.cons (.idx (.var 0) (.var 1)) .nil)) (.int 0))) (.cons (.set 4 (.ife (.cmp .ge (.prim .abs (.cons (.var 3) .nil)) (.bin .pow (.int 10) (.int 18))) (.prim .abs (.cons (.var 3) .nil)) (.int 0))) (.cons (.ret (.lst (.cons (.var 4) (.cons (.bin .mod (.prim .int (.cons (.bin .add (.bin .add (.bin .mul (.var 2) (.int 67)) (.bin .mul (.bin .mod (.prim .int (.cons (.var 3) .nil)) (.int 2147483353)) (.int 7013))) (.int 3)) .nil)) (.int 2147483399)) (.cons (.int 0) .nil))))) .nil)))
def b__law_well_2 : Sms := (.cons (.set 2 (.bin .mod (.prim .int (.cons (.bin .add (.bin .add (.bin .mul (.var 2) (.int 46811)) (.bin .mul (.prim .int (.cons (.var 3) .nil)) (.int 31))) (.int 13)) .nil)) (.int 2147483399))) .nil)
def b__law_well : Sms := (.cons (.set 2 (.bin .add (.int 80021) (.bin .mul (.int 1301) (.var 1)))) (.cons (.forr (.nm 3) (.seq (.slc (.var 0) .no (.ex (.int 10)))) b__law_well_2) b__law_well_1))
theorem t__law_well : okSs c__law_well b__law_well (fun _ => true) (defScope s__law_well) (defBody s__law_well) = true := by decide +kernel
theorem f__law_well : FnScope n__law_well ["_law_script", "_law_spot"] (defScope s__law_well) := ⟨rfl, rfl, rfl, by decide +kernel, rfl, by decide +kernel, by decide +kernel⟩
def n_law : List Str := ["_law_script", "_law_spot"]
abbrev s_law : Stmt := tops 44
def c_law : CC := ⟨n_law, fss.take 43, kss.take 2, css, [], bls, true⟩
def b_law_1 : Sms := (.cons (.ret (.bl true)) .nil)
def b_law_2 : Sms := (.cons (.iff (.nt (.callw "_law_right" 41 (.call "_law_well" 42 (.cons (.var 0) (.cons (.var 1) .nil))))) (.cons (.ret (.bl false)) .nil) .nil) .nil)
def b_law : Sms := (.cons (.forr (.nm 1) (.rng (.cons (.prim .max2 (.cons (.int 4) (.cons (.prim .min2 (.cons (.prim .len (.cons (.var 0) .nil)) (.cons (.int 10) .nil))) .nil))) .nil)) b_law_2) b_law_1)
theorem t_law : okSs c_law b_law (fun _ => true) (defScope s_law) (defBody s_law) = true := by decide +kernel
theorem f_law : FnScope n_law ["_law_script"] (defScope s_law) := ⟨rfl, rfl, rfl, by decide +kernel, rfl, by decide +kernel, by decide +kernel⟩
-- k02 44 defs; not covered: [] classes 2
end K02

set_option Elab.async false
set_option linter.all false
set_option maxRecDepth 100000
set_option maxHeartbeats 8000000
namespace K02
open PySem PySem.Spec PyProof.Rows L2 Ev

/-- a small fraction -/
def Sm (q : Rat) : Prop := q.num.natAbs ≤ 1000000 ∧ q.den ≤ 1000000
def ofO : Option Nat → D
  | none => .non
  | some k => .int (k : Nat)
theorem pure_O (o : Option Nat) : (ofO o).pure = true := by cases o <;> rfl
def PolyOk (p : List Rat) : Prop := p.length ≤ 10 ∧ (∀ q, p.getLast? = some q → q ≠ 0) ∧ ∀ q ∈ p, Sm q
def ModOk (m : List (List (List Rat))) : Prop := m ≠ [] ∧ m.length ≤ 4 ∧ ∀ r ∈ m, r.length = m.length ∧ ∀ p ∈ r, PolyOk p
def GrOk (g : List (List (Option Nat))) : Prop := g ≠ [] ∧ g.length ≤ 4 ∧ ∀ r ∈ g, r.length = g.length ∧ ∀ o ∈ r, ∀ k, o = some k → k ≤ 9
def ofG (g : List (List (Option Nat))) : D := .tup (g.map fun r => .tup (r.map ofO))

/-! ### any values -/
mutual
/-- no defs, no wells, no lists of the script within -/
def vl : D → Bool
  | .tup ds => vlAll ds
  | .lst ds => vlAll ds
  | .fn _ => false
  | .wel => false
  | .fz _ => false
  | _ => true
def vlAll : List D → Bool
  | [] => true
  | d :: ds => vl d && vlAll ds
end
mutual
/-- how deep tuples lie within -/
def td : D → Nat
  | .tup ds => tdAll ds + 1
  | _ => 0
def tdAll : List D → Nat
  | [] => 0
  | d :: ds => max (td d) (tdAll ds)
end
mutual
/-- the greatest int within -/
def mi : D → Nat
  | .tup ds => miAll ds
  | .lst ds => miAll ds
  | .fz ds => miAll ds
  | .int i => i.natAbs
  | _ => 0
def miAll : List D → Nat
  | [] => 0
  | d :: ds => max (mi d) (miAll ds)
end
/-- a value within bounds: depth of tuples, depth, ints, size -/
structure Ob (t p M s : Nat) (d : D) : Prop where
  v : vl d = true
  r : d.rdt = true
  t : td d ≤ t
  p : d.dep ≤ p
  m : mi d ≤ M
  s : d.sgn ≤ s
structure ObA (t p M s : Nat) (ds : List D) : Prop where
  v : vlAll ds = true
  r : rdtAll ds = true
  t : tdAll ds ≤ t
  p : depAll ds ≤ p
  m : miAll ds ≤ M
  s : sgnAll ds ≤ s
def Od (d : D) : Prop := Ob 100 50 1000000000 1000000 d

/-! ### judges -/
def isW : D → Bool
  | .int _ => true
  | _ => false
def areW (d : D) (n : Nat) : Bool := match d with
  | .tup xs => decide (xs.length = n) && xs.all isW
  | _ => false
def isQ : D → Bool
  | .tup [.int a, .int b] => decide (0 < b) && decide (((a.natAbs.gcd b.natAbs : Nat) : Int) = 1)
  | _ => false
def lastOk (ds : List D) : Bool := match ds.getLast? with
  | some (.tup (.int a :: _)) => !decide (a = 0)
  | _ => true
def isP : D → Bool
  | .tup ds => ds.all isQ && lastOk ds
  | _ => false
def isE : D → Bool
  | .non => true
  | .int i => decide (0 ≤ i)
  | _ => false
/-- a row of so many -/
def isR (p : D → Bool) (n : Nat) : D → Bool
  | .tup xs => decide (xs.length = n) && xs.all p
  | _ => false
def isSq (p : D → Bool) : D → Bool
  | .tup (x :: xs) => (x :: xs).all (isR p (xs.length + 1))
  | _ => false
def lenP : D → D
  | .tup [] => .non
  | .tup ds => .int ((ds.length : Int) - 1)
  | _ => .non
def lenR : D → D
  | .tup ps => .tup (ps.map lenP)
  | _ => .non
def ordD : D → D
  | .tup rs => .tup (rs.map lenR)
  | _ => .non

/-! ### contracts -/
/-- the well: three ints -/
def Wk (w : Wl) : Prop := ∃ a b c : Int, w = [.int a, .int b, .int c]
def S_no : Spc := fun _ _ _ _ => False
def S__law_draw : Spc := fun ds w K E => ∃ n : Int, ds = [.wel, .int n] ∧ 0 < n ∧ n < 1073741824 ∧ Wk w ∧ ∀ (r : Int) w', 0 ≤ r → r < n → Wk w' → K (.int r) 2 w'
def S__law_pick : Spc := fun ds w K E => ∃ xs : List D, ds = [.wel, .tup xs] ∧ 0 < xs.length ∧ xs.length ≤ 1000 ∧ Wk w ∧ ∀ x, Inn x xs → ∀ w', Wk w' → K x (frp x) w'
def S__law_ratio : Spc := fun ds w K E => ∃ (n : Int) (m : Nat), ds = [.int n, .int (m : Nat)] ∧ m ≠ 0 ∧ m < 2 ^ 4000 ∧ K (ofQ (mkRat n m)) 2 w
def S__law_number : Spc := fun ds w K E => ds = [.wel] ∧ Wk w ∧ ∀ q w', q ≠ 0 → Sm q → Wk w' → K (ofQ q) 2 w'
def S__law_polynomial : Spc := fun ds w K E => ∃ o, ds = [.wel, ofO o] ∧ (∀ k, o = some k → k ≤ 9) ∧ Wk w ∧ ∀ p w', PolyOk p → Wk w' → K (ofP p) 2 w'
def S__law_sheet : Spc := fun ds w K E => ∃ g, ds = [.wel, ofG g] ∧ GrOk g ∧ Wk w ∧ ∀ m w', ModOk m → Wk w' → K (ofM m) 2 w'
def S__law_order_list : Spc := fun ds w K E => ∃ n : Nat, ds = [.wel, .int (n : Nat)] ∧ n ≤ 4 ∧ Wk w ∧ ∀ (l : List Nat) w', l.length = n → (∀ i ∈ l, i < n) → Wk w' → K (.lst (l.map natD)) 2 w'
def S__law_grid : Spc := fun ds w K E => ∃ b : Nat, ds = [.wel, .int (b : Nat)] ∧ (b = 3 ∨ b = 4) ∧ Wk w ∧ ∀ g w', GrOk g → Wk w' → K (ofG g) 2 w'
def S__law_odd : Spc := fun ds w K E => ds = [.wel] ∧ Wk w ∧ ∀ d fr w', Ob 4 5 7 100 d → Wk w' → K d fr w'
/-- by levels: tuples are less than so deep -/
def S_bent (n : Nat) : Spc := fun ds w K E => ∃ (d : D) (t p M s : Nat), ds = [.wel, d] ∧ Ob t p M s d ∧ t < n ∧ 7 ≤ M ∧ M < 1000000000 ∧ s ≤ 1000000 ∧ Wk w ∧ ∀ d' fr w', Ob (t + 4) (p + 5) (M + 1) (2 * s + 500) d' → Wk w' → K d' fr w'
def S__law_bent_L1 : Spc := S_bent 1
def S__law_bent_L2 : Spc := S_bent 2
def S__law_bent_L3 : Spc := S_bent 3
def S__law_bent_L4 : Spc := S_bent 4
def S__law_bent_L5 : Spc := S_bent 5
def S__law_bent_L6 : Spc := S_bent 6
def S__law_bent_L7 : Spc := S_bent 7
def S__law_bent_L8 : Spc := S_bent 8
def S__law_bent_L9 : Spc := S_bent 9
def S__law_bent_L10 : Spc := S_bent 10
def S_is_whole : Spc := fun ds w K E => ∃ d, ds = [d] ∧ Od d ∧ K (.bl (isW d)) 2 w
def S__law_is_whole : Spc := S_is_whole
def S_are_wholes : Spc := fun ds w K E => ∃ d, ds = [d, .int 2] ∧ Od d ∧ K (.bl (areW d 2)) 2 w
def S_divisor_of : Spc := fun ds w K E => ∃ a b : Int, ds = [.tup [.int a, .int b]] ∧ K (.int (a.natAbs.gcd b.natAbs : Nat)) 2 w
def S_is_ratio : Spc := fun ds w K E => ∃ d, ds = [d] ∧ Od d ∧ K (.bl (isQ d)) 2 w
def S__law_is_fraction : Spc := S_is_ratio
def S_is_poly : Spc := fun ds w K E => ∃ d, ds = [d] ∧ Od d ∧ K (.bl (isP d)) 2 w
def S__law_is_polynomial : Spc := S_is_poly
def S_is_entry : Spc := fun ds w K E => ∃ d, ds = [d] ∧ Od d ∧ K (.bl (isE d)) 2 w
def S_is_square_of : Spc := fun ds w K E => ∃ (d : D) (g : Nat), ds = [d, .fn g] ∧ Od d ∧ (g = 30 ∧ K (.bl (isSq isP d)) 2 w ∨ g = 31 ∧ K (.bl (isSq isE d)) 2 w)
def S_is_modelled : Spc := fun ds w K E => ∃ d, ds = [d] ∧ Od d ∧ K (.bl (isSq isP d)) 2 w
def S_is_model : Spc := S_is_modelled
def S__law_is_sheet : Spc := S_is_modelled
def S_is_patterned : Spc := fun ds w K E => ∃ d, ds = [d] ∧ Od d ∧ K (.bl (isSq isE d)) 2 w
def S_is_pattern : Spc := S_is_patterned
def S__law_is_grid : Spc := S_is_patterned
def S__law_is_square : Spc := fun ds w K E => ∃ d, ds = [d] ∧ Od d ∧ K (.bl (isSq (fun _ => true) d)) 2 w
def S_check_model : Spc := fun ds w K E => ∃ d, ds = [d] ∧ Od d ∧ (isSq isP d = true → K .non 2 w) ∧ (isSq isP d = false → E 0 (some d) w)
def S_pattern_by : Spc := fun ds w K E => ∃ d, ds = [d] ∧ Od d ∧ isSq isP d = true ∧ K (ordD d) 2 w
def S__law_orders : Spc := S_pattern_by
def S_pattern_of : Spc := fun ds w K E => ∃ d, ds = [d] ∧ Od d ∧ (isSq isP d = true → K (ordD d) 2 w) ∧ (isSq isP d = false → E 0 (some d) w)
def S__law_said : Spc := fun ds w K E => ∃ d, ds = [d] ∧ Od d ∧ (isSq isP d = true → K (.tup [.str "told", ordD d]) 2 w) ∧ (isSq isP d = false → K (.tup [.str "refused", d]) (if d.pure = true then 2 else 0) w)
def S__law_right : Spc := fun ds w K E => ds = [.wel] ∧ Wk w ∧ ∀ w', Wk w' → K (.bl true) 2 w'
def S__law_well : Spc := fun ds w K E => ∃ (ns : List Int) (i : Nat), ds = [.fz (ns.map D.int), .int (i : Nat)] ∧ ns.length ≤ 63 ∧ i ≤ 100 ∧ ∀ a b c : Int, K (.lst [.int a, .int b, .int c]) 2 w
def S_law : Spc := fun ds w K E => ∃ ns : List Int, ds = [.fz (ns.map D.int)] ∧ ns.length ≤ 63 ∧ K (.bl true) 2 w
def TT : Tab where
  fn g := match g with
    | 0 => S__law_draw
    | 1 => S__law_pick
    | 2 => S__law_order_list
    | 3 => S__law_grid
    | 4 => S__law_ratio
    | 5 => S__law_number
    | 6 => S__law_polynomial
    | 7 => S__law_sheet
    | 8 => S__law_odd
    | 9 => S__law_bent_L1
    | 10 => S__law_bent_L2
    | 11 => S__law_bent_L3
    | 12 => S__law_bent_L4
    | 13 => S__law_bent_L5
    | 14 => S__law_bent_L6
    | 15 => S__law_bent_L7
    | 16 => S__law_bent_L8
    | 17 => S__law_bent_L9
    | 18 => S__law_bent_L10
    | 19 => S__law_is_square
    | 20 => S__law_is_whole
    | 21 => S__law_is_grid
    | 22 => S__law_is_fraction
    | 23 => S__law_is_polynomial
    | 24 => S__law_is_sheet
    | 25 => S__law_orders
    | 26 => S_is_whole
    | 27 => S_are_wholes
    | 28 => S_divisor_of
    | 29 => S_is_ratio
    | 30 => S_is_poly
    | 31 => S_is_entry
    | 32 => S_is_square_of
    | 33 => S_is_modelled
    | 34 => S_check_model
    | 35 => S_pattern_by
    | 36 => S_pattern_of
    | 37 => S__law_said
    | 38 => S_is_patterned
    | 39 => S_is_pattern
    | 40 => S_is_model
    | 41 => S__law_right
    | 42 => S__law_well
    | 43 => S_law
    | _ => S_no
  kw m := match m with
    | 0 => fun ds es w K E => S_is_pattern (pick 0 1 [0] ds es) w K E
    | 1 => fun ds es w K E => S_is_model (pick 0 1 [0] ds es) w K E
    | _ => fun _ _ _ _ _ => False
  cs m := .tup []
  cv g := g == 30 || g == 31
  er g := g == 0
  sub g h := g == h
  fl _ := "given"
theorem tf0 : TT.fn 0 = S__law_draw := rfl
theorem tf1 : TT.fn 1 = S__law_pick := rfl
theorem tf2 : TT.fn 2 = S__law_order_list := rfl
theorem tf3 : TT.fn 3 = S__law_grid := rfl
theorem tf4 : TT.fn 4 = S__law_ratio := rfl
theorem tf5 : TT.fn 5 = S__law_number := rfl
theorem tf6 : TT.fn 6 = S__law_polynomial := rfl
theorem tf7 : TT.fn 7 = S__law_sheet := rfl
theorem tf8 : TT.fn 8 = S__law_odd := rfl
theorem tf9 : TT.fn 9 = S__law_bent_L1 := rfl
theorem tf10 : TT.fn 10 = S__law_bent_L2 := rfl
theorem tf11 : TT.fn 11 = S__law_bent_L3 := rfl
theorem tf12 : TT.fn 12 = S__law_bent_L4 := rfl
theorem tf13 : TT.fn 13 = S__law_bent_L5 := rfl
theorem tf14 : TT.fn 14 = S__law_bent_L6 := rfl
theorem tf15 : TT.fn 15 = S__law_bent_L7 := rfl
theorem tf16 : TT.fn 16 = S__law_bent_L8 := rfl
theorem tf17 : TT.fn 17 = S__law_bent_L9 := rfl
theorem tf18 : TT.fn 18 = S__law_bent_L10 := rfl
theorem tf19 : TT.fn 19 = S__law_is_square := rfl
theorem tf20 : TT.fn 20 = S__law_is_whole := rfl
theorem tf21 : TT.fn 21 = S__law_is_grid := rfl
theorem tf22 : TT.fn 22 = S__law_is_fraction := rfl
theorem tf23 : TT.fn 23 = S__law_is_polynomial := rfl
theorem tf24 : TT.fn 24 = S__law_is_sheet := rfl
theorem tf25 : TT.fn 25 = S__law_orders := rfl
theorem tf26 : TT.fn 26 = S_is_whole := rfl
theorem tf27 : TT.fn 27 = S_are_wholes := rfl
theorem tf28 : TT.fn 28 = S_divisor_of := rfl
theorem tf29 : TT.fn 29 = S_is_ratio := rfl
theorem tf30 : TT.fn 30 = S_is_poly := rfl
theorem tf31 : TT.fn 31 = S_is_entry := rfl
theorem tf32 : TT.fn 32 = S_is_square_of := rfl
theorem tf33 : TT.fn 33 = S_is_modelled := rfl
theorem tf34 : TT.fn 34 = S_check_model := rfl
theorem tf35 : TT.fn 35 = S_pattern_by := rfl
theorem tf36 : TT.fn 36 = S_pattern_of := rfl
theorem tf37 : TT.fn 37 = S__law_said := rfl
theorem tf38 : TT.fn 38 = S_is_patterned := rfl
theorem tf39 : TT.fn 39 = S_is_pattern := rfl
theorem tf40 : TT.fn 40 = S_is_model := rfl
theorem tf41 : TT.fn 41 = S__law_right := rfl
theorem tf42 : TT.fn 42 = S__law_well := rfl
theorem tf43 : TT.fn 43 = S_law := rfl
theorem tcs (m : Nat) : TT.cs m = .tup [] := rfl
theorem ter : TT.er 0 = true := rfl
theorem tsub : TT.sub 0 0 = true := rfl
theorem tfl : TT.fl 0 = "given" := rfl
end K02

set_option Elab.async false
set_option linter.all false
set_option maxRecDepth 100000
set_option maxHeartbeats 8000000
namespace K02
open PySem PySem.Spec PyProof.Rows L2 Ev

theorem p__law_draw : ∀ ds w K E, S__law_draw ds w K E → ds.length = 2 ∧ wSs (TT.at 0) b__law_draw (startS 4 ds) w { nx := fun _ w' => K .non 2 w', rt := K } E := by
  rintro ds w K E ⟨n, rfl, h0, h1, ⟨a, b, c, rfl⟩, k⟩
  refine ⟨rfl, ?_⟩
  show wSs _ b__law_draw [some (.wel, 0), some (.int n, 0), none, none] _ _ _
  by_cases h : 0 < a
  · simp (maxSteps := 2000000) [↓wSs, ↓wS, ↓wE, ↓wEs, ↓wAnd, ↓wOr, ↓wO, ↓wC, ↓wI, ↓slot, ↓asI, ↓asB, ↓asS, ↓asL, ↓items, ↓itemsL, ↓cop, ↓bop, ↓prim, ↓atI, ↓ixN, ↓tsS, ↓subS, ↓Ev.putIn, ↓sto, ↓dg, ↓fvE, ↓fvEs, ↓fvO, ↓fvI, ↓frp, ↓D.pure, ↓pureAll, ↓bindT, ↓tgl, ↓wipeS, ↓isTy, ↓D.eqOk, ↓D.isStr, ↓D.flat, ↓at_fn, ↓at_kw, ↓at_cs, b__law_draw, h, CDiv]
    exact ⟨⟨h0, h1⟩, k _ _ (Int.emod_nonneg _ (by omega)) (Int.emod_lt_of_pos _ h0) ⟨_, _, _, rfl⟩⟩
  · simp (maxSteps := 2000000) [↓wSs, ↓wS, ↓wE, ↓wEs, ↓wAnd, ↓wOr, ↓wO, ↓wC, ↓wI, ↓slot, ↓asI, ↓asB, ↓asS, ↓asL, ↓items, ↓itemsL, ↓cop, ↓bop, ↓prim, ↓atI, ↓ixN, ↓tsS, ↓subS, ↓Ev.putIn, ↓sto, ↓dg, ↓fvE, ↓fvEs, ↓fvO, ↓fvI, ↓frp, ↓D.pure, ↓pureAll, ↓bindT, ↓tgl, ↓wipeS, ↓isTy, ↓D.eqOk, ↓D.isStr, ↓D.flat, ↓at_fn, ↓at_kw, ↓at_cs, b__law_draw, b__law_draw_1, h, CMul]
    exact ⟨.inl (.inr ⟨by omega, by omega⟩), h0, k _ _ (Int.emod_nonneg _ (by omega)) (Int.emod_lt_of_pos _ h0) ⟨_, _, _, rfl⟩⟩
theorem p__law_pick : ∀ ds w K E, S__law_pick ds w K E → ds.length = 2 ∧ wSs (TT.at 1) b__law_pick (startS 2 ds) w { nx := fun _ w' => K .non 2 w', rt := K } E := by
  rintro ds w K E ⟨xs, rfl, h0, h1, hw, k⟩
  refine ⟨rfl, ?_⟩
  show wSs _ b__law_pick [some (.wel, 0), some (.tup xs, 0)] _ _ _
  simp only [↓wSs, ↓wS, ↓wE, ↓wEs, ↓wAnd, ↓wOr, ↓wO, ↓wC, ↓wI, ↓slot, ↓asI, ↓asB, ↓asS, ↓asL, ↓items, ↓itemsL, ↓cop, ↓bop, ↓prim, ↓atI, ↓ixN, ↓tsS, ↓subS, ↓Ev.putIn, ↓sto, ↓dg, ↓fvE, ↓fvEs, ↓fvO, ↓fvI, ↓frp, ↓D.pure, ↓pureAll, ↓bindT, ↓tgl, ↓wipeS, ↓isTy, ↓D.eqOk, ↓D.isStr, ↓D.flat, ↓at_fn, ↓at_kw, ↓at_cs, b__law_pick]
  refine ⟨xs.length, rfl, by omega, by omega, hw, fun r w' r0 r1 hw' => ?_⟩
  obtain ⟨j, x, hx, e⟩ := atI_in r0 r1
  show match atI xs r with
    | some d => K d (frp d) w'
    | none => False
  rw [e]
  exact k x (List.mem_of_getElem? hx) w' hw'
theorem p__law_order_list : ∀ ds w K E, S__law_order_list ds w K E → ds.length = 2 ∧ wSs (TT.at 2) b__law_order_list (startS 6 ds) w { nx := fun _ w' => K .non 2 w', rt := K } E := by
  rintro ds w K E ⟨n, rfl, hn, hw, k⟩
  refine ⟨rfl, ?_⟩
  show wSs _ b__law_order_list [some (.wel, 0), some (.int (n : Nat), 0), none, none, none, none] _ _ _
  have rg : rngD 0 n = (List.range n).map natD := by unfold rngD natD; simp
  simp (maxSteps := 2000000) [↓wSs, ↓wS, ↓wE, ↓wEs, ↓wAnd, ↓wOr, ↓wO, ↓wC, ↓wI, ↓slot, ↓asI, ↓asB, ↓asS, ↓asL, ↓items, ↓itemsL, ↓cop, ↓bop, ↓prim, at0, at1, at2, ↓tsS, ↓subS, ↓Ev.putIn, ↓sto, ↓dg, ↓fvE, ↓fvEs, ↓fvO, ↓fvI, ↓frp, ↓D.pure, ↓pureAll, ↓bindT, ↓tgl, ↓wipeS, ↓isTy, ↓D.eqOk, ↓D.isStr, ↓D.flat, ↓at_fn, ↓at_kw, ↓at_cs, b__law_order_list, RgOk]
  refine ⟨⟨by omega, by omega⟩, by omega, ?_⟩
  refine forS_from (fun i ρ w' => Wk w' ∧ i ≤ n ∧ ∃ (l f : List Nat) (x4 x5 : Option (D × Nat)), l.length = n - i ∧ f.length = i ∧ (∀ x ∈ l, x < n) ∧ (∀ x ∈ f, x < n) ∧ ρ = [some (.wel, 0), some (.int (n : Nat), 0), some (.lst (l.map natD), 2), some (.lst (f.map natD), 2), x4, x5]) ?_ ?_ ?_
  · exact ⟨hw, Nat.zero_le _, List.range n, [], none, none, by simp, rfl, fun x hx => List.mem_range.mp hx, fun x hx => by simp at hx, by rw [rg]; rfl⟩
  · rintro i x ρ w' N hx ⟨hw', hi, l, f, x4, x5, hl, hf, l1, f1, rfl⟩ hN
    obtain ⟨hi', rfl⟩ := rngD_of hx
    simp (maxSteps := 2000000) [↓wSs, ↓wS, ↓wE, ↓wEs, ↓wAnd, ↓wOr, ↓wO, ↓wC, ↓wI, ↓slot, ↓asI, ↓asB, ↓asS, ↓asL, ↓items, ↓itemsL, ↓cop, ↓bop, ↓prim, at0, at1, at2, ↓tsS, ↓subS, ↓Ev.putIn, ↓sto, ↓dg, ↓fvE, ↓fvEs, ↓fvO, ↓fvI, ↓frp, ↓D.pure, ↓pureAll, ↓bindT, ↓tgl, ↓wipeS, ↓isTy, ↓D.eqOk, ↓D.isStr, ↓D.flat, ↓at_fn, ↓at_kw, ↓at_cs, b__law_order_list_3, ↓tf0, ↓tf1, ↓tf2, ↓tf3, ↓tf4, ↓tf5, ↓tf6, ↓tf7, ↓tf8, ↓tf9, ↓tf10, ↓tf11, ↓tf12, ↓tf13, ↓tf14, ↓tf15, ↓tf16, ↓tf17, ↓tf18, ↓tf19, ↓tf20, ↓tf21, ↓tf22, ↓tf23, ↓tf24, ↓tf25, ↓tf26, ↓tf27, ↓tf28, ↓tf29, ↓tf30, ↓tf31, ↓tf32, ↓tf33, ↓tf34, ↓tf35, ↓tf36, ↓tf37, ↓tf38, ↓tf39, ↓tf40, ↓tf41, ↓tf42, ↓tf43, ↓S__law_draw]
    refine ⟨by omega, by omega, hw', fun r w1 r0 r1 hw1 => ?_⟩
    obtain ⟨r', rfl⟩ := nat_of r0
    have hr : r' < l.length := by omega
    have hat : atI (l.map natD) ((r' : Nat) : Int) = some (natD l[r']) := atI_nat (by rw [List.getElem?_map, List.getElem?_eq_getElem hr]; rfl)
    have pn : (natD l[r']).pure = true := rfl
    have e1 : (l.map natD).take r' = (l.take r').map natD := by rw [List.map_take]
    have e2 : (l.map natD).drop (r' + 1) = (l.drop (r' + 1)).map natD := by rw [List.map_drop]
    have c1 := cutD_lo (l.map natD) r'
    have c2 : Ev.cutD (l.map natD) (some ((r' : Nat) + 1 : Int)) none = (l.map natD).drop (r' + 1) := cutD_hi (l.map natD) (r' + 1)
    have q1 : pureAll ((l.map natD).take r') = true := by rw [e1]; exact pa_N _
    have q2 : pureAll ((l.map natD).drop (r' + 1)) = true := by rw [e2]; exact pa_N _
    simp (maxSteps := 2000000) [↓wSs, ↓wS, ↓wE, ↓wEs, ↓wAnd, ↓wOr, ↓wO, ↓wC, ↓wI, ↓slot, ↓asI, ↓asB, ↓asS, ↓asL, ↓items, ↓itemsL, ↓cop, ↓bop, ↓prim, at0, at1, at2, ↓tsS, ↓subS, ↓Ev.putIn, ↓sto, ↓dg, ↓fvE, ↓fvEs, ↓fvO, ↓fvI, ↓frp, ↓D.pure, ↓pureAll, ↓bindT, ↓tgl, ↓wipeS, ↓isTy, ↓D.eqOk, ↓D.isStr, ↓D.flat, ↓at_fn, ↓at_kw, ↓at_cs, b__law_order_list_2, hat, pn, c1, c2, q1, q2]
    refine ⟨by omega, by omega, hN _ _ ⟨hw1, hi', l.take r' ++ l.drop (r' + 1), f ++ [l[r']], _, _, ?_, by simp [hf], fun x hx => ?_, fun x hx => ?_, by rw [List.map_append, List.map_append, ← e1, ← e2]; rfl⟩⟩
    · rw [List.length_append, List.length_take, List.length_drop]
      omega
    · rcases List.mem_append.mp hx with z | z
      · exact l1 x (List.mem_of_mem_take z)
      · exact l1 x (List.mem_of_mem_drop z)
    · rcases List.mem_append.mp hx with z | z
      · exact f1 x z
      · have : x = l[r'] := by simpa using z
        rw [this]; exact l1 _ (List.getElem_mem hr)
  · rintro ρ w' ⟨hw', hi, l, f, x4, x5, hl, hf, l1, f1, rfl⟩
    rw [rngD_length] at hf
    simp (maxSteps := 2000000) [↓wSs, ↓wS, ↓wE, ↓wEs, ↓wAnd, ↓wOr, ↓wO, ↓wC, ↓wI, ↓slot, ↓asI, ↓asB, ↓asS, ↓asL, ↓items, ↓itemsL, ↓cop, ↓bop, ↓prim, at0, at1, at2, ↓tsS, ↓subS, ↓Ev.putIn, ↓sto, ↓dg, ↓fvE, ↓fvEs, ↓fvO, ↓fvI, ↓frp, ↓D.pure, ↓pureAll, ↓bindT, ↓tgl, ↓wipeS, ↓isTy, ↓D.eqOk, ↓D.isStr, ↓D.flat, ↓at_fn, ↓at_kw, ↓at_cs, b__law_order_list_1, pa_N]
    exact k f w' hf f1 hw'
theorem gcd_turn {a b : Nat} (hb : 0 < b) : (b.gcd (a % b)) = a.gcd b := by
  rw [Nat.gcd_comm a b, Nat.gcd_rec b a, Nat.gcd_comm]
theorem p__law_ratio : ∀ ds w K E, S__law_ratio ds w K E → ds.length = 2 ∧ wSs (TT.at 4) b__law_ratio (startS 4 ds) w { nx := fun _ w' => K .non 2 w', rt := K } E := by
  rintro ds w K E ⟨n, m, rfl, h0, h1, k⟩
  refine ⟨rfl, ?_⟩
  show wSs _ b__law_ratio [some (.int n, 0), some (.int (m : Nat), 0), none, none] _ _ _
  have e1 : (if n < 0 then -n else n) = (n.natAbs : Nat) := by split <;> omega
  have e2 : (if ((m : Nat) : Int) < 0 then -((m : Nat) : Int) else (m : Nat)) = (m : Nat) := by split <;> omega
  simp (maxSteps := 2000000) [↓wSs, ↓wS, ↓wE, ↓wEs, ↓wAnd, ↓wOr, ↓wO, ↓wC, ↓wI, ↓slot, ↓asI, ↓asB, ↓asS, ↓asL, ↓items, ↓itemsL, ↓cop, ↓bop, ↓prim, at0, at1, at2, ↓tsS, ↓subS, ↓Ev.putIn, ↓sto, ↓dg, ↓fvE, ↓fvEs, ↓fvO, ↓fvI, ↓frp, ↓D.pure, ↓pureAll, ↓bindT, ↓tgl, ↓wipeS, ↓isTy, ↓D.eqOk, ↓D.isStr, ↓D.flat, ↓at_fn, ↓at_kw, ↓at_cs, b__law_ratio, e1, e2]
  refine whl_inv (fun b ρ w' => w' = w ∧ ∃ a : Nat, a.gcd b = n.natAbs.gcd m ∧ ρ = [some (.int n, 0), some (.int (m : Nat), 0), some (.int (a : Nat), 2), some (.int (b : Nat), 2)]) (m := m) ⟨rfl, n.natAbs, rfl, rfl⟩ ?_
  rintro b ρ w' N ⟨rfl, a, hg, rfl⟩ hN
  by_cases hb : 0 < b
  · simp (maxSteps := 2000000) [↓wSs, ↓wS, ↓wE, ↓wEs, ↓wAnd, ↓wOr, ↓wO, ↓wC, ↓wI, ↓slot, ↓asI, ↓asB, ↓asS, ↓asL, ↓items, ↓itemsL, ↓cop, ↓bop, ↓prim, at0, at1, at2, ↓tsS, ↓subS, ↓Ev.putIn, ↓sto, ↓dg, ↓fvE, ↓fvEs, ↓fvO, ↓fvI, ↓frp, ↓D.pure, ↓pureAll, ↓bindT, ↓tgl, ↓wipeS, ↓isTy, ↓D.eqOk, ↓D.isStr, ↓D.flat, ↓at_fn, ↓at_kw, ↓at_cs, b__law_ratio_2, hb]
    refine hN (a % b) _ _ (Nat.mod_lt _ hb) ⟨rfl, b, ?_, ?_⟩
    · rw [← hg, gcd_turn hb]
    · rw [Int.natCast_emod]
  · have : b = 0 := by omega
    subst this
    have g1 := gcd_le_den (n := n) h0
    have g2 := gcd_pos (n := n) h0
    rw [Nat.gcd_zero_right] at hg
    subst hg
    have hm : 0 < m := by omega
    simp (maxSteps := 2000000) [↓wSs, ↓wS, ↓wE, ↓wEs, ↓wAnd, ↓wOr, ↓wO, ↓wC, ↓wI, ↓slot, ↓asI, ↓asB, ↓asS, ↓asL, ↓items, ↓itemsL, ↓cop, ↓bop, ↓prim, at0, at1, at2, ↓tsS, ↓subS, ↓Ev.putIn, ↓sto, ↓dg, ↓fvE, ↓fvEs, ↓fvO, ↓fvI, ↓frp, ↓D.pure, ↓pureAll, ↓bindT, ↓tgl, ↓wipeS, ↓isTy, ↓D.eqOk, ↓D.isStr, ↓D.flat, ↓at_fn, ↓at_kw, ↓at_cs, b__law_ratio_1, hm]
    refine ⟨.inr ?_, ?_⟩
    · have := log_lt (Nat.lt_of_le_of_lt g1 h1) (by decide)
      omega
    · rw [mk_pair h0]
      exact k
theorem mk_ne {n : Int} {d : Nat} (hn : n ≠ 0) (hd : d ≠ 0) : mkRat n d ≠ 0 := fun e => by
  have := (Rat.mkRat_eq_zero hd).mp e
  exact hn this
theorem sign_of {r : Int} (h0 : 0 ≤ r) (h1 : r < 2) : (1 - 2 * r = 1 ∨ 1 - 2 * r = -1) := by omega
theorem num_ok {s r : Int} {v : Nat} (hs : s = 1 ∨ s = -1) (h0 : 0 ≤ r) (h1 : r < v) : s * (1 + r) ≠ 0 ∧ (s * (1 + r)).natAbs ≤ v := by
  rcases hs with rfl | rfl <;> constructor <;> omega
theorem lt40 {m : Nat} (h : m < 1000000000) : m < 2 ^ 4000 := Nat.lt_of_lt_of_le h (Nat.le_trans (by decide : 1000000000 ≤ 2 ^ 30) (Nat.pow_le_pow_right (by decide) (by decide)))
theorem sm_num {n : Int} {d : Nat} (h0 : 0 < d) (h : d ≤ 50) (hn : n.natAbs ≤ 1000000) : Sm (mkRat n d) := by
  have h1 : Sz d 1000000 (mkRat n d) := Sz.of (by omega) (Nat.dvd_refl d) (by omega) hn
  obtain ⟨e1, e2⟩ := mk_parts (n := n) (d := d) (by omega)
  obtain ⟨k, hk⟩ := Nat.gcd_dvd_left n.natAbs d
  have dv : ((n.natAbs.gcd d : Nat) : Int) ∣ n := Int.ofNat_dvd_left.mpr ⟨k, hk⟩
  constructor
  · rw [e1, Int.natAbs_ediv_of_dvd dv, Int.natAbs_natCast]
    exact Nat.le_trans (Nat.div_le_self _ _) hn
  · rw [e2]
    exact Nat.le_trans (Nat.div_le_self _ _) (by omega)
theorem ite2 {c : Prop} [Decidable c] {a b : Prop} (h1 : c → a) (h2 : ¬ c → b) : if c then a else b := by split; exact h1 ‹_›; exact h2 ‹_›
theorem p__law_number : ∀ ds w K E, S__law_number ds w K E → ds.length = 1 ∧ wSs (TT.at 5) b__law_number (startS 3 ds) w { nx := fun _ w' => K .non 2 w', rt := K } E := by
  rintro ds w K E ⟨rfl, hw, k⟩
  refine ⟨rfl, ?_⟩
  show wSs _ b__law_number [some (.wel, 0), none, none] _ _ _
  simp (maxSteps := 2000000) [↓wSs, ↓wS, ↓wE, ↓wEs, ↓wAnd, ↓wOr, ↓wO, ↓wC, ↓wI, ↓slot, ↓asI, ↓asB, ↓asS, ↓asL, ↓items, ↓itemsL, ↓cop, ↓bop, ↓prim, at0, at1, at2, ↓tsS, ↓subS, ↓Ev.putIn, ↓sto, ↓dg, ↓fvE, ↓fvEs, ↓fvO, ↓fvI, ↓frp, ↓D.pure, ↓pureAll, ↓bindT, ↓tgl, ↓wipeS, ↓isTy, ↓D.eqOk, ↓D.isStr, ↓D.flat, ↓at_fn, ↓at_kw, ↓at_cs, b__law_number, ↓tf0, ↓tf1, ↓tf2, ↓tf3, ↓tf4, ↓tf5, ↓tf6, ↓tf7, ↓tf8, ↓tf9, ↓tf10, ↓tf11, ↓tf12, ↓tf13, ↓tf14, ↓tf15, ↓tf16, ↓tf17, ↓tf18, ↓tf19, ↓tf20, ↓tf21, ↓tf22, ↓tf23, ↓tf24, ↓tf25, ↓tf26, ↓tf27, ↓tf28, ↓tf29, ↓tf30, ↓tf31, ↓tf32, ↓tf33, ↓tf34, ↓tf35, ↓tf36, ↓tf37, ↓tf38, ↓tf39, ↓tf40, ↓tf41, ↓tf42, ↓tf43, ↓S__law_draw]
  refine ⟨hw, fun r w1 r0 r1 hw1 => ⟨hw1, fun s w2 s0 s1 hw2 => ?_⟩⟩
  have hs := sign_of s0 s1
  refine ⟨csm (by omega), ?_⟩
  simp (maxSteps := 2000000) [↓wSs, ↓wS, ↓wE, ↓wEs, ↓wAnd, ↓wOr, ↓wO, ↓wC, ↓wI, ↓slot, ↓asI, ↓asB, ↓asS, ↓asL, ↓items, ↓itemsL, ↓cop, ↓bop, ↓prim, at0, at1, at2, ↓tsS, ↓subS, ↓Ev.putIn, ↓sto, ↓dg, ↓fvE, ↓fvEs, ↓fvO, ↓fvI, ↓frp, ↓D.pure, ↓pureAll, ↓bindT, ↓tgl, ↓wipeS, ↓isTy, ↓D.eqOk, ↓D.isStr, ↓D.flat, ↓at_fn, ↓at_kw, ↓at_cs, b__law_number_3, ↓tf0, ↓tf1, ↓tf2, ↓tf3, ↓tf4, ↓tf5, ↓tf6, ↓tf7, ↓tf8, ↓tf9, ↓tf10, ↓tf11, ↓tf12, ↓tf13, ↓tf14, ↓tf15, ↓tf16, ↓tf17, ↓tf18, ↓tf19, ↓tf20, ↓tf21, ↓tf22, ↓tf23, ↓tf24, ↓tf25, ↓tf26, ↓tf27, ↓tf28, ↓tf29, ↓tf30, ↓tf31, ↓tf32, ↓tf33, ↓tf34, ↓tf35, ↓tf36, ↓tf37, ↓tf38, ↓tf39, ↓tf40, ↓tf41, ↓tf42, ↓tf43, ↓S__law_draw]
  split
  · refine ⟨hw2, fun t w3 t0 t1 hw3 => ⟨csm (by omega), ?_⟩⟩
    obtain ⟨n1, n2⟩ := num_ok (v := 3) hs t0 (by omega)
    rw [ofQ_one]
    exact k _ _ (mk_ne n1 (by decide)) (sm_num (by decide) (by decide) (by omega)) hw3
  · simp (maxSteps := 2000000) [↓wSs, ↓wS, ↓wE, ↓wEs, ↓wAnd, ↓wOr, ↓wO, ↓wC, ↓wI, ↓slot, ↓asI, ↓asB, ↓asS, ↓asL, ↓items, ↓itemsL, ↓cop, ↓bop, ↓prim, at0, at1, at2, ↓tsS, ↓subS, ↓Ev.putIn, ↓sto, ↓dg, ↓fvE, ↓fvEs, ↓fvO, ↓fvI, ↓frp, ↓D.pure, ↓pureAll, ↓bindT, ↓tgl, ↓wipeS, ↓isTy, ↓D.eqOk, ↓D.isStr, ↓D.flat, ↓at_fn, ↓at_kw, ↓at_cs, b__law_number_2, ↓tf0, ↓tf1, ↓tf2, ↓tf3, ↓tf4, ↓tf5, ↓tf6, ↓tf7, ↓tf8, ↓tf9, ↓tf10, ↓tf11, ↓tf12, ↓tf13, ↓tf14, ↓tf15, ↓tf16, ↓tf17, ↓tf18, ↓tf19, ↓tf20, ↓tf21, ↓tf22, ↓tf23, ↓tf24, ↓tf25, ↓tf26, ↓tf27, ↓tf28, ↓tf29, ↓tf30, ↓tf31, ↓tf32, ↓tf33, ↓tf34, ↓tf35, ↓tf36, ↓tf37, ↓tf38, ↓tf39, ↓tf40, ↓tf41, ↓tf42, ↓tf43, ↓S__law_draw, ↓S__law_ratio]
    split
    · refine ⟨hw2, fun t w3 t0 t1 hw3 => ⟨csm (by omega), hw3, fun u w4 u0 u1 hw4 => ?_⟩⟩
      obtain ⟨n1, n2⟩ := num_ok (v := 6) hs t0 (by omega)
      obtain ⟨u', rfl⟩ := nat_of u0
      refine ⟨_, u' + 1, ⟨rfl, by omega⟩, by omega, lt40 (by omega), ?_⟩
      exact k _ _ (mk_ne n1 (by omega)) (sm_num (by omega) (by omega) (by omega)) hw4
    · simp (maxSteps := 2000000) [↓wSs, ↓wS, ↓wE, ↓wEs, ↓wAnd, ↓wOr, ↓wO, ↓wC, ↓wI, ↓slot, ↓asI, ↓asB, ↓asS, ↓asL, ↓items, ↓itemsL, ↓cop, ↓bop, ↓prim, at0, at1, at2, ↓tsS, ↓subS, ↓Ev.putIn, ↓sto, ↓dg, ↓fvE, ↓fvEs, ↓fvO, ↓fvI, ↓frp, ↓D.pure, ↓pureAll, ↓bindT, ↓tgl, ↓wipeS, ↓isTy, ↓D.eqOk, ↓D.isStr, ↓D.flat, ↓at_fn, ↓at_kw, ↓at_cs, b__law_number_1, ↓tf0, ↓tf1, ↓tf2, ↓tf3, ↓tf4, ↓tf5, ↓tf6, ↓tf7, ↓tf8, ↓tf9, ↓tf10, ↓tf11, ↓tf12, ↓tf13, ↓tf14, ↓tf15, ↓tf16, ↓tf17, ↓tf18, ↓tf19, ↓tf20, ↓tf21, ↓tf22, ↓tf23, ↓tf24, ↓tf25, ↓tf26, ↓tf27, ↓tf28, ↓tf29, ↓tf30, ↓tf31, ↓tf32, ↓tf33, ↓tf34, ↓tf35, ↓tf36, ↓tf37, ↓tf38, ↓tf39, ↓tf40, ↓tf41, ↓tf42, ↓tf43, ↓S__law_draw, ↓S__law_ratio, CPow]
      refine ⟨hw2, fun t w3 t0 t1 hw3 => ⟨csm (by omega), hw3, fun u w4 u0 u1 hw4 => ?_⟩⟩
      obtain ⟨n1, n2⟩ := num_ok (v := 1000000) hs t0 (by omega)
      obtain ⟨u', rfl⟩ := nat_of u0
      refine ⟨_, u' + 1, ⟨rfl, by omega⟩, by omega, lt40 (by omega), ?_⟩
      exact k _ _ (mk_ne n1 (by omega)) (sm_num (by omega) (by omega) (by omega)) hw4
theorem sm0 : Sm 0 := ⟨by decide +kernel, by decide +kernel⟩
theorem p__law_polynomial : ∀ ds w K E, S__law_polynomial ds w K E → ds.length = 2 ∧ wSs (TT.at 6) b__law_polynomial (startS 4 ds) w { nx := fun _ w' => K .non 2 w', rt := K } E := by
  rintro ds w K E ⟨o, rfl, ho, hw, k⟩
  refine ⟨rfl, ?_⟩
  cases o with
  | none =>
    show wSs _ b__law_polynomial [some (.wel, 0), some (.non, 0), none, none] _ _ _
    simp (maxSteps := 2000000) [↓wSs, ↓wS, ↓wE, ↓wEs, ↓wAnd, ↓wOr, ↓wO, ↓wC, ↓wI, ↓slot, ↓asI, ↓asB, ↓asS, ↓asL, ↓items, ↓itemsL, ↓cop, ↓bop, ↓prim, at0, at1, at2, ↓tsS, ↓subS, ↓Ev.putIn, ↓sto, ↓dg, ↓fvE, ↓fvEs, ↓fvO, ↓fvI, ↓frp, ↓D.pure, ↓pureAll, ↓bindT, ↓tgl, ↓wipeS, ↓isTy, ↓D.eqOk, ↓D.isStr, ↓D.flat, ↓at_fn, ↓at_kw, ↓at_cs, b__law_polynomial, Ev.isNon]
    exact k [] w ⟨by simp, fun q h => by simp at h, fun q h => by simp at h⟩ hw
  | some n =>
    show wSs _ b__law_polynomial [some (.wel, 0), some (.int (n : Nat), 0), none, none] _ _ _
    have hn := ho n rfl
    simp (maxSteps := 2000000) [↓wSs, ↓wS, ↓wE, ↓wEs, ↓wAnd, ↓wOr, ↓wO, ↓wC, ↓wI, ↓slot, ↓asI, ↓asB, ↓asS, ↓asL, ↓items, ↓itemsL, ↓cop, ↓bop, ↓prim, at0, at1, at2, ↓tsS, ↓subS, ↓Ev.putIn, ↓sto, ↓dg, ↓fvE, ↓fvEs, ↓fvO, ↓fvI, ↓frp, ↓D.pure, ↓pureAll, ↓bindT, ↓tgl, ↓wipeS, ↓isTy, ↓D.eqOk, ↓D.isStr, ↓D.flat, ↓at_fn, ↓at_kw, ↓at_cs, b__law_polynomial, b__law_polynomial_3, Ev.isNon]
    refine ⟨by omega, ?_⟩
    refine forS_from (fun i ρ w' => Wk w' ∧ i ≤ n ∧ ∃ (p : List Rat) (x3 : Option (D × Nat)), p.length = i ∧ (∀ q ∈ p, Sm q) ∧ ρ = [some (.wel, 0), some (.int (n : Nat), 0), some (.lst (p.map ofQ), 2), x3]) ?_ ?_ ?_
    · exact ⟨hw, Nat.zero_le _, [], none, rfl, fun q h => by simp at h, rfl⟩
    · rintro i x ρ w' N hx ⟨hw', hi, p, x3, hp, hq, rfl⟩ hN
      obtain ⟨hi', rfl⟩ := rngD_of hx
      have put : ∀ (q : Rat) w2 (x : Option (D × Nat)), Sm q → Wk w2 → N [some (.wel, 0), some (.int (n : Nat), 0), some (.lst (p.map ofQ ++ [ofQ q]), 2), x] w2 := fun q w2 x h1 h2 => by
        refine hN _ _ ⟨h2, hi', p ++ [q], _, by simp [hp], fun y hy => ?_, by rw [List.map_append]; rfl⟩
        rcases List.mem_append.mp hy with z | z
        · exact hq y z
        · have : y = q := by simpa using z
          rw [this]; exact h1
      simp (maxSteps := 2000000) [↓wSs, ↓wS, ↓wE, ↓wEs, ↓wAnd, ↓wOr, ↓wO, ↓wC, ↓wI, ↓slot, ↓asI, ↓asB, ↓asS, ↓asL, ↓items, ↓itemsL, ↓cop, ↓bop, ↓prim, at0, at1, at2, ↓tsS, ↓subS, ↓Ev.putIn, ↓sto, ↓dg, ↓fvE, ↓fvEs, ↓fvO, ↓fvI, ↓frp, ↓D.pure, ↓pureAll, ↓bindT, ↓tgl, ↓wipeS, ↓isTy, ↓D.eqOk, ↓D.isStr, ↓D.flat, ↓at_fn, ↓at_kw, ↓at_cs, b__law_polynomial_2, ↓tf0, ↓tf1, ↓tf2, ↓tf3, ↓tf4, ↓tf5, ↓tf6, ↓tf7, ↓tf8, ↓tf9, ↓tf10, ↓tf11, ↓tf12, ↓tf13, ↓tf14, ↓tf15, ↓tf16, ↓tf17, ↓tf18, ↓tf19, ↓tf20, ↓tf21, ↓tf22, ↓tf23, ↓tf24, ↓tf25, ↓tf26, ↓tf27, ↓tf28, ↓tf29, ↓tf30, ↓tf31, ↓tf32, ↓tf33, ↓tf34, ↓tf35, ↓tf36, ↓tf37, ↓tf38, ↓tf39, ↓tf40, ↓tf41, ↓tf42, ↓tf43, ↓S__law_draw, ↓S__law_number, pu_Q]
      refine ⟨hw', fun r w1 r0 r1 hw1 => ?_⟩
      split
      · exact ⟨by omega, put 0 _ _ sm0 hw1⟩
      · exact ⟨hw1, fun q w2 _ sq hw2 => ⟨by omega, put q _ _ sq hw2⟩⟩
    · rintro ρ w' ⟨hw', hi, p, x3, hp, hq, rfl⟩
      rw [rngD_length] at hp
      simp (maxSteps := 2000000) [↓wSs, ↓wS, ↓wE, ↓wEs, ↓wAnd, ↓wOr, ↓wO, ↓wC, ↓wI, ↓slot, ↓asI, ↓asB, ↓asS, ↓asL, ↓items, ↓itemsL, ↓cop, ↓bop, ↓prim, at0, at1, at2, ↓tsS, ↓subS, ↓Ev.putIn, ↓sto, ↓dg, ↓fvE, ↓fvEs, ↓fvO, ↓fvI, ↓frp, ↓D.pure, ↓pureAll, ↓bindT, ↓tgl, ↓wipeS, ↓isTy, ↓D.eqOk, ↓D.isStr, ↓D.flat, ↓at_fn, ↓at_kw, ↓at_cs, b__law_polynomial_1, ↓tf0, ↓tf1, ↓tf2, ↓tf3, ↓tf4, ↓tf5, ↓tf6, ↓tf7, ↓tf8, ↓tf9, ↓tf10, ↓tf11, ↓tf12, ↓tf13, ↓tf14, ↓tf15, ↓tf16, ↓tf17, ↓tf18, ↓tf19, ↓tf20, ↓tf21, ↓tf22, ↓tf23, ↓tf24, ↓tf25, ↓tf26, ↓tf27, ↓tf28, ↓tf29, ↓tf30, ↓tf31, ↓tf32, ↓tf33, ↓tf34, ↓tf35, ↓tf36, ↓tf37, ↓tf38, ↓tf39, ↓tf40, ↓tf41, ↓tf42, ↓tf43, ↓S__law_number, pa_Q, pu_Q]
      refine ⟨hw', fun q w2 q0 sq hw2 => ⟨by omega, ?_⟩⟩
      have := k (p ++ [q]) w2 ⟨by simp; omega, fun y hy => ?_, fun y hy => ?_⟩ hw2
      · unfold ofP at this
        rw [List.map_append] at this
        exact this
      · rw [List.getLast?_append] at hy
        simp at hy
        rw [← hy]; exact q0
      · rcases List.mem_append.mp hy with z | z
        · exact hq y z
        · have : y = q := by simpa using z
          rw [this]; exact sq
theorem p__law_sheet : ∀ ds w K E, S__law_sheet ds w K E → ds.length = 2 ∧ wSs (TT.at 7) b__law_sheet (startS 6 ds) w { nx := fun _ w' => K .non 2 w', rt := K } E := by
  rintro ds w K E ⟨g, rfl, ⟨g0, g1, g2⟩, hw, k⟩
  refine ⟨rfl, ?_⟩
  have pg : pureAll (g.map fun r => D.tup (r.map ofO)) = true := pureAll_map (fun r => by simp only [D.pure]; exact pureAll_map pure_O r) g
  have po : ∀ r : List (Option Nat), pureAll (r.map ofO) = true := fun r => pureAll_map pure_O r
  show wSs _ b__law_sheet [some (.wel, 0), some (.tup (g.map fun r => .tup (r.map ofO)), 0), none, none, none, none] _ _ _
  simp (maxSteps := 2000000) [↓wSs, ↓wS, ↓wE, ↓wEs, ↓wAnd, ↓wOr, ↓wO, ↓wC, ↓wI, ↓slot, ↓asI, ↓asB, ↓asS, ↓asL, ↓items, ↓itemsL, ↓cop, ↓bop, ↓prim, at0, at1, at2, ↓tsS, ↓subS, ↓Ev.putIn, ↓sto, ↓dg, ↓fvE, ↓fvEs, ↓fvO, ↓fvI, ↓frp, ↓D.pure, ↓pureAll, ↓bindT, ↓tgl, ↓wipeS, ↓isTy, ↓D.eqOk, ↓D.isStr, ↓D.flat, ↓at_fn, ↓at_kw, ↓at_cs, b__law_sheet, pg]
  refine forS_from (fun i ρ w' => Wk w' ∧ i ≤ g.length ∧ ∃ (m : List (List (List Rat))) (x3 x4 x5 : Option (D × Nat)), m.length = i ∧ (∀ r ∈ m, r.length = g.length ∧ ∀ p ∈ r, PolyOk p) ∧ ρ = [some (.wel, 0), some (.tup (g.map fun r => .tup (r.map ofO)), 0), some (.lst (m.map ofR), 2), x3, x4, x5]) ?_ ?_ ?_
  · exact ⟨hw, Nat.zero_le _, [], none, none, none, rfl, fun r h => by simp at h, rfl⟩
  · rintro i x ρ w' N hx ⟨hw', hi, m, x3, x4, x5, hm, hr, rfl⟩ hN
    obtain ⟨r, he, rfl⟩ := map_of hx
    obtain ⟨r1, r2⟩ := g2 r (List.mem_of_getElem? he)
    simp (maxSteps := 2000000) [↓wSs, ↓wS, ↓wE, ↓wEs, ↓wAnd, ↓wOr, ↓wO, ↓wC, ↓wI, ↓slot, ↓asI, ↓asB, ↓asS, ↓asL, ↓items, ↓itemsL, ↓cop, ↓bop, ↓prim, at0, at1, at2, ↓tsS, ↓subS, ↓Ev.putIn, ↓sto, ↓dg, ↓fvE, ↓fvEs, ↓fvO, ↓fvI, ↓frp, ↓D.pure, ↓pureAll, ↓bindT, ↓tgl, ↓wipeS, ↓isTy, ↓D.eqOk, ↓D.isStr, ↓D.flat, ↓at_fn, ↓at_kw, ↓at_cs, b__law_sheet_4, po]
    refine forS_from (fun j ρ w'' => Wk w'' ∧ j ≤ r.length ∧ ∃ (l : List (List Rat)) (x5 : Option (D × Nat)), l.length = j ∧ (∀ p ∈ l, PolyOk p) ∧ ρ = [some (.wel, 0), some (.tup (g.map fun r => .tup (r.map ofO)), 0), some (.lst (m.map ofR), 2), some (.tup (r.map ofO), 0), some (.lst (l.map ofP), 2), x5]) ?_ ?_ ?_
    · exact ⟨hw', Nat.zero_le _, [], x5, rfl, fun r h => by simp at h, rfl⟩
    · rintro j x ρ w'' N2 hx2 ⟨hw'', hj, l, x5, hl, hp, rfl⟩ hN2
      obtain ⟨o, ho, rfl⟩ := map_of hx2
      simp (maxSteps := 2000000) [↓wSs, ↓wS, ↓wE, ↓wEs, ↓wAnd, ↓wOr, ↓wO, ↓wC, ↓wI, ↓slot, ↓asI, ↓asB, ↓asS, ↓asL, ↓items, ↓itemsL, ↓cop, ↓bop, ↓prim, at0, at1, at2, ↓tsS, ↓subS, ↓Ev.putIn, ↓sto, ↓dg, ↓fvE, ↓fvEs, ↓fvO, ↓fvI, ↓frp, ↓D.pure, ↓pureAll, ↓bindT, ↓tgl, ↓wipeS, ↓isTy, ↓D.eqOk, ↓D.isStr, ↓D.flat, ↓at_fn, ↓at_kw, ↓at_cs, b__law_sheet_3, ↓tf0, ↓tf1, ↓tf2, ↓tf3, ↓tf4, ↓tf5, ↓tf6, ↓tf7, ↓tf8, ↓tf9, ↓tf10, ↓tf11, ↓tf12, ↓tf13, ↓tf14, ↓tf15, ↓tf16, ↓tf17, ↓tf18, ↓tf19, ↓tf20, ↓tf21, ↓tf22, ↓tf23, ↓tf24, ↓tf25, ↓tf26, ↓tf27, ↓tf28, ↓tf29, ↓tf30, ↓tf31, ↓tf32, ↓tf33, ↓tf34, ↓tf35, ↓tf36, ↓tf37, ↓tf38, ↓tf39, ↓tf40, ↓tf41, ↓tf42, ↓tf43, ↓S__law_polynomial, pure_P, pure_O]
      refine ⟨o, rfl, r2 o (List.mem_of_getElem? ho), hw'', fun p w2 pp hw2 => ⟨by omega, ?_⟩⟩
      refine hN2 _ _ ⟨hw2, (List.getElem?_eq_some_iff.mp ho).1, l ++ [p], _, by simp [hl], fun y hy => ?_, by rw [List.map_append]; rfl⟩
      rcases List.mem_append.mp hy with z | z
      · exact hp y z
      · have : y = p := by simpa using z
        rw [this]; exact pp
    · rintro ρ w'' ⟨hw'', hj, l, x5, hl, hp, rfl⟩
      rw [List.length_map] at hl
      simp (maxSteps := 2000000) [↓wSs, ↓wS, ↓wE, ↓wEs, ↓wAnd, ↓wOr, ↓wO, ↓wC, ↓wI, ↓slot, ↓asI, ↓asB, ↓asS, ↓asL, ↓items, ↓itemsL, ↓cop, ↓bop, ↓prim, at0, at1, at2, ↓tsS, ↓subS, ↓Ev.putIn, ↓sto, ↓dg, ↓fvE, ↓fvEs, ↓fvO, ↓fvI, ↓frp, ↓D.pure, ↓pureAll, ↓bindT, ↓tgl, ↓wipeS, ↓isTy, ↓D.eqOk, ↓D.isStr, ↓D.flat, ↓at_fn, ↓at_kw, ↓at_cs, b__law_sheet_2, pa_P]
      refine ⟨by omega, hN _ _ ⟨hw'', (List.getElem?_eq_some_iff.mp he).1, m ++ [l], _, _, _, by simp [hm], fun y hy => ?_, by rw [List.map_append]; rfl⟩⟩
      rcases List.mem_append.mp hy with z | z
      · exact hr y z
      · have : y = l := by simpa using z
        rw [this]; exact ⟨by omega, hp⟩
  · rintro ρ w' ⟨hw', hi, m, x3, x4, x5, hm, hr, rfl⟩
    rw [List.length_map] at hm
    simp (maxSteps := 2000000) [↓wSs, ↓wS, ↓wE, ↓wEs, ↓wAnd, ↓wOr, ↓wO, ↓wC, ↓wI, ↓slot, ↓asI, ↓asB, ↓asS, ↓asL, ↓items, ↓itemsL, ↓cop, ↓bop, ↓prim, at0, at1, at2, ↓tsS, ↓subS, ↓Ev.putIn, ↓sto, ↓dg, ↓fvE, ↓fvEs, ↓fvO, ↓fvI, ↓frp, ↓D.pure, ↓pureAll, ↓bindT, ↓tgl, ↓wipeS, ↓isTy, ↓D.eqOk, ↓D.isStr, ↓D.flat, ↓at_fn, ↓at_kw, ↓at_cs, b__law_sheet_1, pa_R]
    refine k m w' ⟨?_, by omega, fun r h => ?_⟩ hw'
    · rintro rfl
      simp at hm
      exact g0 (List.length_eq_zero_iff.mp hm.symm)
    · obtain ⟨z1, z2⟩ := hr r h
      exact ⟨by omega, z2⟩
theorem p__law_well : ∀ ds w K E, S__law_well ds w K E → ds.length = 2 ∧ wSs (TT.at 42) b__law_well (startS 5 ds) w { nx := fun _ w' => K .non 2 w', rt := K } E := by
  rintro ds w K E ⟨ns, i, rfl, hl, hi, k⟩
  refine ⟨rfl, ?_⟩
  show wSs _ b__law_well [some (.fz (ns.map D.int), 0), some (.int (i : Nat), 0), none, none, none] _ _ _
  have pz : pureAll (ns.map D.int) = true := pureAll_map (fun _ => rfl) ns
  have c10 : Ev.cutD (ns.map D.int) none (some 10) = (ns.take 10).map D.int := by
    have := cutD_lo (ns.map D.int) 10
    rw [← List.map_take] at this
    exact this
  simp (maxSteps := 2000000) [↓wSs, ↓wS, ↓wE, ↓wEs, ↓wAnd, ↓wOr, ↓wO, ↓wC, ↓wI, ↓slot, ↓asI, ↓asB, ↓asS, ↓asL, ↓items, ↓itemsL, ↓cop, ↓bop, ↓prim, at0, at1, at2, ↓tsS, ↓subS, ↓Ev.putIn, ↓sto, ↓dg, ↓fvE, ↓fvEs, ↓fvO, ↓fvI, ↓frp, ↓D.pure, ↓pureAll, ↓bindT, ↓tgl, ↓wipeS, ↓isTy, ↓D.eqOk, ↓D.isStr, ↓D.flat, ↓at_fn, ↓at_kw, ↓at_cs, b__law_well, c10, pz]
  refine ⟨csm (by omega), ?_⟩
  refine forS_from (fun j ρ w' => w' = w ∧ ∃ (s : Int) (x3 x4 : Option (D × Nat)), ρ = [some (.fz (ns.map D.int), 0), some (.int (i : Nat), 0), some (.int s, 2), x3, x4]) ?_ ?_ ?_
  · exact ⟨rfl, _, none, none, rfl⟩
  · rintro j x ρ w' N hx ⟨rfl, s, x3, x4, rfl⟩ hN
    rw [← List.map_take] at hx
    obtain ⟨z, _, rfl⟩ := map_of hx
    simp (maxSteps := 2000000) [↓wSs, ↓wS, ↓wE, ↓wEs, ↓wAnd, ↓wOr, ↓wO, ↓wC, ↓wI, ↓slot, ↓asI, ↓asB, ↓asS, ↓asL, ↓items, ↓itemsL, ↓cop, ↓bop, ↓prim, at0, at1, at2, ↓tsS, ↓subS, ↓Ev.putIn, ↓sto, ↓dg, ↓fvE, ↓fvEs, ↓fvO, ↓fvI, ↓frp, ↓D.pure, ↓pureAll, ↓bindT, ↓tgl, ↓wipeS, ↓isTy, ↓D.eqOk, ↓D.isStr, ↓D.flat, ↓at_fn, ↓at_kw, ↓at_cs, b__law_well_2]
    exact ⟨.inl (.inr ⟨by omega, by omega⟩), .inl (.inr ⟨by omega, by omega⟩), hN _ _ ⟨rfl, _, _, _, rfl⟩⟩
  · rintro ρ w' ⟨rfl, s, x3, x4, rfl⟩
    by_cases h : i < ns.length
    · have hat : atI (ns.map D.int) ((i : Nat) : Int) = some (.int ns[i]) := atI_nat (by rw [List.getElem?_map, List.getElem?_eq_getElem h]; rfl)
      simp (maxSteps := 2000000) [↓wSs, ↓wS, ↓wE, ↓wEs, ↓wAnd, ↓wOr, ↓wO, ↓wC, ↓wI, ↓slot, ↓asI, ↓asB, ↓asS, ↓asL, ↓items, ↓itemsL, ↓cop, ↓bop, ↓prim, at0, at1, at2, ↓tsS, ↓subS, ↓Ev.putIn, ↓sto, ↓dg, ↓fvE, ↓fvEs, ↓fvO, ↓fvI, ↓frp, ↓D.pure, ↓pureAll, ↓bindT, ↓tgl, ↓wipeS, ↓isTy, ↓D.eqOk, ↓D.isStr, ↓D.flat, ↓at_fn, ↓at_kw, ↓at_cs, b__law_well_1, h, hat, CPow]
      refine ite2 (fun _ => ?_) fun _ => ?_
      · exact ⟨.inl (.inr ⟨by omega, by omega⟩), .inl (.inr ⟨by omega, by omega⟩), k _ _ _⟩
      · exact ⟨.inl (.inr ⟨by omega, by omega⟩), .inl (.inr ⟨by omega, by omega⟩), k _ _ _⟩
    · simp (maxSteps := 2000000) [↓wSs, ↓wS, ↓wE, ↓wEs, ↓wAnd, ↓wOr, ↓wO, ↓wC, ↓wI, ↓slot, ↓asI, ↓asB, ↓asS, ↓asL, ↓items, ↓itemsL, ↓cop, ↓bop, ↓prim, at0, at1, at2, ↓tsS, ↓subS, ↓Ev.putIn, ↓sto, ↓dg, ↓fvE, ↓fvEs, ↓fvO, ↓fvI, ↓frp, ↓D.pure, ↓pureAll, ↓bindT, ↓tgl, ↓wipeS, ↓isTy, ↓D.eqOk, ↓D.isStr, ↓D.flat, ↓at_fn, ↓at_kw, ↓at_cs, b__law_well_1, h, CPow]
      exact ⟨.inl (.inr ⟨by omega, by omega⟩), .inl (.inr ⟨by omega, by omega⟩), k _ _ _⟩
theorem p_law : ∀ ds w K E, S_law ds w K E → ds.length = 1 ∧ wSs (TT.at 43) b_law (startS 2 ds) w { nx := fun _ w' => K .non 2 w', rt := K } E := by
  rintro ds w K E ⟨ns, rfl, hl, k⟩
  refine ⟨rfl, ?_⟩
  have pz : pureAll (ns.map D.int) = true := pureAll_map (fun _ => rfl) ns
  show wSs _ b_law [some (.fz (ns.map D.int), 0), none] _ _ _
  simp (maxSteps := 2000000) [↓wSs, ↓wS, ↓wE, ↓wEs, ↓wAnd, ↓wOr, ↓wO, ↓wC, ↓wI, ↓slot, ↓asI, ↓asB, ↓asS, ↓asL, ↓items, ↓itemsL, ↓cop, ↓bop, ↓prim, at0, at1, at2, ↓tsS, ↓subS, ↓Ev.putIn, ↓sto, ↓dg, ↓fvE, ↓fvEs, ↓fvO, ↓fvI, ↓frp, ↓D.pure, ↓pureAll, ↓bindT, ↓tgl, ↓wipeS, ↓isTy, ↓D.eqOk, ↓D.isStr, ↓D.flat, ↓at_fn, ↓at_kw, ↓at_cs, b_law, pz]
  have e : ∃ m : Nat, (if 4 < (if 10 < ((ns.length : Nat) : Int) then (10 : Int) else (ns.length : Nat)) then (if 10 < ((ns.length : Nat) : Int) then (10 : Int) else (ns.length : Nat)) else 4) = (m : Nat) ∧ m ≤ 10 := by
    refine ⟨max 4 (min ns.length 10), ?_, by omega⟩
    split <;> split <;> omega
  obtain ⟨m, e, hm⟩ := e
  simp only [e]
  refine ⟨by omega, by omega, ?_⟩
  rw [Int.toNat_natCast]
  refine forS_from (fun j ρ w' => w' = w ∧ ∃ x1 : Option (D × Nat), ρ = [some (.fz (ns.map D.int), 0), x1]) ⟨rfl, none, rfl⟩ ?_ ?_
  · rintro j x ρ w' N hx ⟨rfl, x1, rfl⟩ hN
    obtain ⟨hj, rfl⟩ := rngD_of hx
    simp (maxSteps := 2000000) [↓wSs, ↓wS, ↓wE, ↓wEs, ↓wAnd, ↓wOr, ↓wO, ↓wC, ↓wI, ↓slot, ↓asI, ↓asB, ↓asS, ↓asL, ↓items, ↓itemsL, ↓cop, ↓bop, ↓prim, at0, at1, at2, ↓tsS, ↓subS, ↓Ev.putIn, ↓sto, ↓dg, ↓fvE, ↓fvEs, ↓fvO, ↓fvI, ↓frp, ↓D.pure, ↓pureAll, ↓bindT, ↓tgl, ↓wipeS, ↓isTy, ↓D.eqOk, ↓D.isStr, ↓D.flat, ↓at_fn, ↓at_kw, ↓at_cs, b_law_2, ↓tf0, ↓tf1, ↓tf2, ↓tf3, ↓tf4, ↓tf5, ↓tf6, ↓tf7, ↓tf8, ↓tf9, ↓tf10, ↓tf11, ↓tf12, ↓tf13, ↓tf14, ↓tf15, ↓tf16, ↓tf17, ↓tf18, ↓tf19, ↓tf20, ↓tf21, ↓tf22, ↓tf23, ↓tf24, ↓tf25, ↓tf26, ↓tf27, ↓tf28, ↓tf29, ↓tf30, ↓tf31, ↓tf32, ↓tf33, ↓tf34, ↓tf35, ↓tf36, ↓tf37, ↓tf38, ↓tf39, ↓tf40, ↓tf41, ↓tf42, ↓tf43, ↓S__law_right, ↓S__law_well]
    exact ⟨ns, j, ⟨rfl, rfl⟩, hl, by omega, fun a b c => ⟨⟨a, b, c, rfl⟩, fun _ _ => hN _ _ ⟨rfl, _, rfl⟩⟩⟩
  · rintro ρ w' ⟨rfl, x1, rfl⟩
    simp (maxSteps := 2000000) [↓wSs, ↓wS, ↓wE, ↓wEs, ↓wAnd, ↓wOr, ↓wO, ↓wC, ↓wI, ↓slot, ↓asI, ↓asB, ↓asS, ↓asL, ↓items, ↓itemsL, ↓cop, ↓bop, ↓prim, at0, at1, at2, ↓tsS, ↓subS, ↓Ev.putIn, ↓sto, ↓dg, ↓fvE, ↓fvEs, ↓fvO, ↓fvI, ↓frp, ↓D.pure, ↓pureAll, ↓bindT, ↓tgl, ↓wipeS, ↓isTy, ↓D.eqOk, ↓D.isStr, ↓D.flat, ↓at_fn, ↓at_kw, ↓at_cs, b_law_1]
    exact k
theorem p__law_grid : ∀ ds w K E, S__law_grid ds w K E → ds.length = 2 ∧ wSs (TT.at 3) b__law_grid (startS 12 ds) w { nx := fun _ w' => K .non 2 w', rt := K } E := by
  rintro ds w K E ⟨bb, rfl, hb, hw, k⟩
  refine ⟨rfl, ?_⟩
  show wSs _ b__law_grid [some (.wel, 0), some (.int (bb : Nat), 0), none, none, none, none, none, none, none, none, none, none] _ _ _
  unfold b__law_grid wSs
  simp only [wS, wE, wEs, slot, List.getElem?_cons_zero, List.getElem?_cons_succ, Option.join_some, at_fn, tf0, tf1]
  refine ⟨by decide, _, rfl, by decide, by decide, hw, fun x hx w1 hw1 => ?_⟩
  have hx4 : ∃ i : Nat, x = .int (i : Nat) ∧ 1 ≤ i ∧ i ≤ 4 := by
    simp only [Inn, List.mem_cons, List.not_mem_nil, or_false] at hx
    rcases hx with rfl | rfl | rfl | rfl | rfl | rfl | rfl
    · exact ⟨1, rfl, by decide, by decide⟩
    · exact ⟨2, rfl, by decide, by decide⟩
    · exact ⟨2, rfl, by decide, by decide⟩
    · exact ⟨3, rfl, by decide, by decide⟩
    · exact ⟨3, rfl, by decide, by decide⟩
    · exact ⟨3, rfl, by decide, by decide⟩
    · exact ⟨4, rfl, by decide, by decide⟩
  obtain ⟨m, rfl, m1, m4⟩ := hx4
  clear hx
  have e : ∃ n : Nat, (if m < bb then ((m : Nat) : Int) else ((bb : Nat) : Int)) = (n : Nat) ∧ 1 ≤ n ∧ n ≤ 4 := by
    split
    · exact ⟨m, rfl, m1, m4⟩
    · exact ⟨bb, rfl, by omega, by omega⟩
  obtain ⟨n, e, n1, n4⟩ := e
  simp (maxSteps := 2000000) [↓wSs, ↓wS, ↓wE, ↓wEs, ↓wAnd, ↓wOr, ↓wO, ↓wC, ↓wI, ↓slot, ↓asI, ↓asB, ↓asS, ↓asL, ↓items, ↓itemsL, ↓cop, ↓bop, ↓prim, at0, at1, at2, ↓tsS, ↓subS, ↓Ev.putIn, ↓sto, ↓dg, ↓fvE, ↓fvEs, ↓fvO, ↓fvI, ↓frp, ↓D.pure, ↓pureAll, ↓bindT, ↓tgl, ↓wipeS, ↓isTy, ↓D.eqOk, ↓D.isStr, ↓D.flat, ↓at_fn, ↓at_kw, ↓at_cs, ↓S__law_draw, ↓tf0, ↓tf1, ↓tf2, ↓tf3, ↓tf4, ↓tf5, ↓tf6, ↓tf7, ↓tf8, ↓tf9, ↓tf10, ↓tf11, ↓tf12, ↓tf13, ↓tf14, ↓tf15, ↓tf16, ↓tf17, ↓tf18, ↓tf19, ↓tf20, ↓tf21, ↓tf22, ↓tf23, ↓tf24, ↓tf25, ↓tf26, ↓tf27, ↓tf28, ↓tf29, ↓tf30, ↓tf31, ↓tf32, ↓tf33, ↓tf34, ↓tf35, ↓tf36, ↓tf37, ↓tf38, ↓tf39, ↓tf40, ↓tf41, ↓tf42, ↓tf43]
  refine ⟨hw1, fun st w2 s0 s1 hw2 => ?_⟩
  rw [e]
  simp (maxSteps := 2000000) [↓wSs, ↓wS, ↓wE, ↓wEs, ↓wAnd, ↓wOr, ↓wO, ↓wC, ↓wI, ↓slot, ↓asI, ↓asB, ↓asS, ↓asL, ↓items, ↓itemsL, ↓cop, ↓bop, ↓prim, at0, at1, at2, ↓tsS, ↓subS, ↓Ev.putIn, ↓sto, ↓dg, ↓fvE, ↓fvEs, ↓fvO, ↓fvI, ↓frp, ↓D.pure, ↓pureAll, ↓bindT, ↓tgl, ↓wipeS, ↓isTy, ↓D.eqOk, ↓D.isStr, ↓D.flat, ↓at_fn, ↓at_kw, ↓at_cs, b__law_grid_12, ↓tf0, ↓tf1, ↓tf2, ↓tf3, ↓tf4, ↓tf5, ↓tf6, ↓tf7, ↓tf8, ↓tf9, ↓tf10, ↓tf11, ↓tf12, ↓tf13, ↓tf14, ↓tf15, ↓tf16, ↓tf17, ↓tf18, ↓tf19, ↓tf20, ↓tf21, ↓tf22, ↓tf23, ↓tf24, ↓tf25, ↓tf26, ↓tf27, ↓tf28, ↓tf29, ↓tf30, ↓tf31, ↓tf32, ↓tf33, ↓tf34, ↓tf35, ↓tf36, ↓tf37, ↓tf38, ↓tf39, ↓tf40, ↓tf41, ↓tf42, ↓tf43, ↓S__law_pick]
  refine ⟨hw2, fun xh hxh w3 hw3 => ?_⟩
  have hh : ∃ i : Nat, xh = .int (i : Nat) ∧ 1 ≤ i ∧ i ≤ 10 := by
    simp only [Inn, List.mem_cons, List.not_mem_nil, or_false] at hxh
    rcases hxh with rfl | rfl | rfl | rfl | rfl | rfl
    · exact ⟨1, rfl, by decide, by decide⟩
    · exact ⟨2, rfl, by decide, by decide⟩
    · exact ⟨3, rfl, by decide, by decide⟩
    · exact ⟨3, rfl, by decide, by decide⟩
    · exact ⟨4, rfl, by decide, by decide⟩
    · exact ⟨10, rfl, by decide, by decide⟩
  obtain ⟨hi, rfl, hi1, hi2⟩ := hh
  clear hxh
  obtain ⟨st', rfl⟩ := nat_of s0
  simp (maxSteps := 2000000) [↓wSs, ↓wS, ↓wE, ↓wEs, ↓wAnd, ↓wOr, ↓wO, ↓wC, ↓wI, ↓slot, ↓asI, ↓asB, ↓asS, ↓asL, ↓items, ↓itemsL, ↓cop, ↓bop, ↓prim, at0, at1, at2, ↓tsS, ↓subS, ↓Ev.putIn, ↓sto, ↓dg, ↓fvE, ↓fvEs, ↓fvO, ↓fvI, ↓frp, ↓D.pure, ↓pureAll, ↓bindT, ↓tgl, ↓wipeS, ↓isTy, ↓D.eqOk, ↓D.isStr, ↓D.flat, ↓at_fn, ↓at_kw, ↓at_cs, b__law_grid_11]
  refine ⟨by omega, ?_⟩
  refine forS_from (fun i ρ w' => Wk w' ∧ i ≤ n ∧ ∃ (g : List (List (Option Nat))) (x6 x7 x8 x9 x10 x11 : Option (D × Nat)), g.length = i ∧ (∀ r ∈ g, r.length = n ∧ ∀ o ∈ r, ∀ k, o = some k → k ≤ 9) ∧ ρ = [some (.wel, 0), some (.int (bb : Nat), 0), some (.int (n : Nat), 2), some (.int (st' : Nat), 2), some (.int (hi : Nat), 2), some (.lst (g.map fun r => .lst (r.map ofO)), 2), x6, x7, x8, x9, x10, x11]) ?_ ?_ ?_
  · exact ⟨hw3, Nat.zero_le _, [], none, none, none, none, none, none, rfl, fun r h => by simp at h, rfl⟩
  · rintro i x ρ w' N hx ⟨hw', hin, g, x6, x7, x8, x9, x10, x11, hg, hr, rfl⟩ hN
    obtain ⟨hi', rfl⟩ := rngD_of hx
    simp (maxSteps := 2000000) [↓wSs, ↓wS, ↓wE, ↓wEs, ↓wAnd, ↓wOr, ↓wO, ↓wC, ↓wI, ↓slot, ↓asI, ↓asB, ↓asS, ↓asL, ↓items, ↓itemsL, ↓cop, ↓bop, ↓prim, at0, at1, at2, ↓tsS, ↓subS, ↓Ev.putIn, ↓sto, ↓dg, ↓fvE, ↓fvEs, ↓fvO, ↓fvI, ↓frp, ↓D.pure, ↓pureAll, ↓bindT, ↓tgl, ↓wipeS, ↓isTy, ↓D.eqOk, ↓D.isStr, ↓D.flat, ↓at_fn, ↓at_kw, ↓at_cs, b__law_grid_10]
    refine ⟨by omega, ?_⟩
    refine forS_from (fun j ρ w'' => Wk w'' ∧ j ≤ n ∧ ∃ (r : List (Option Nat)) (x6 x9 x11 : Option (D × Nat)), r.length = j ∧ (∀ o ∈ r, ∀ k, o = some k → k ≤ 9) ∧ ρ = [some (.wel, 0), some (.int (bb : Nat), 0), some (.int (n : Nat), 2), some (.int (st' : Nat), 2), some (.int (hi : Nat), 2), some (.lst (g.map fun r => .lst (r.map ofO)), 2), x6, x7, some (.lst (r.map ofO), 2), x9, x10, x11]) ?_ ?_ ?_
    · exact ⟨hw', Nat.zero_le _, [], _, x9, x11, rfl, fun r h => by simp at h, rfl⟩
    · rintro j x ρ w'' N2 hx2 ⟨hw'', hj, r, x6, x9, x11, hrl, hro, rfl⟩ hN2
      obtain ⟨hj', rfl⟩ := rngD_of hx2
      have lt5 : ∃ v : Int, atI [D.int 4, .int 3, .int 2, .int 1, .int 0] ((st' : Nat) : Int) = some (.int v) := by
        have : st' = 0 ∨ st' = 1 ∨ st' = 2 ∨ st' = 3 ∨ st' = 4 := by omega
        rcases this with rfl | rfl | rfl | rfl | rfl
        · exact ⟨4, rfl⟩
        · exact ⟨3, rfl⟩
        · exact ⟨2, rfl⟩
        · exact ⟨1, rfl⟩
        · exact ⟨0, rfl⟩
      obtain ⟨v, hv⟩ := lt5
      have put : ∀ (o : Option Nat) w4 (x9 x11 : Option (D × Nat)), (∀ k, o = some k → k ≤ 9) → Wk w4 → N2 [some (.wel, 0), some (.int (bb : Nat), 0), some (.int (n : Nat), 2), some (.int (st' : Nat), 2), some (.int (hi : Nat), 2), some (.lst (g.map fun r => .lst (r.map ofO)), 2), x6, x7, some (.lst (r.map ofO ++ [ofO o]), 2), x9, x10, x11] w4 := fun o w4 x9 x11 h1 h2 => by
        refine hN2 _ _ ⟨h2, hj', r ++ [o], x6, _, _, by simp [hrl], fun y hy => ?_, by rw [List.map_append]; rfl⟩
        rcases List.mem_append.mp hy with z | z
        · exact hro y z
        · have : y = o := by simpa using z
          rw [this]; exact h1
      simp (maxSteps := 2000000) [↓wSs, ↓wS, ↓wE, ↓wEs, ↓wAnd, ↓wOr, ↓wO, ↓wC, ↓wI, ↓slot, ↓asI, ↓asB, ↓asS, ↓asL, ↓items, ↓itemsL, ↓cop, ↓bop, ↓prim, at0, at1, at2, ↓tsS, ↓subS, ↓Ev.putIn, ↓sto, ↓dg, ↓fvE, ↓fvEs, ↓fvO, ↓fvI, ↓frp, ↓D.pure, ↓pureAll, ↓bindT, ↓tgl, ↓wipeS, ↓isTy, ↓D.eqOk, ↓D.isStr, ↓D.flat, ↓at_fn, ↓at_kw, ↓at_cs, b__law_grid_9, ↓tf0, ↓tf1, ↓tf2, ↓tf3, ↓tf4, ↓tf5, ↓tf6, ↓tf7, ↓tf8, ↓tf9, ↓tf10, ↓tf11, ↓tf12, ↓tf13, ↓tf14, ↓tf15, ↓tf16, ↓tf17, ↓tf18, ↓tf19, ↓tf20, ↓tf21, ↓tf22, ↓tf23, ↓tf24, ↓tf25, ↓tf26, ↓tf27, ↓tf28, ↓tf29, ↓tf30, ↓tf31, ↓tf32, ↓tf33, ↓tf34, ↓tf35, ↓tf36, ↓tf37, ↓tf38, ↓tf39, ↓tf40, ↓tf41, ↓tf42, ↓tf43, ↓S__law_draw, hv]
      refine ⟨hw'', fun r1 w4 _ _ hw4 => ?_⟩
      simp (maxSteps := 2000000) [↓wSs, ↓wS, ↓wE, ↓wEs, ↓wAnd, ↓wOr, ↓wO, ↓wC, ↓wI, ↓slot, ↓asI, ↓asB, ↓asS, ↓asL, ↓items, ↓itemsL, ↓cop, ↓bop, ↓prim, at0, at1, at2, ↓tsS, ↓subS, ↓Ev.putIn, ↓sto, ↓dg, ↓fvE, ↓fvEs, ↓fvO, ↓fvI, ↓frp, ↓D.pure, ↓pureAll, ↓bindT, ↓tgl, ↓wipeS, ↓isTy, ↓D.eqOk, ↓D.isStr, ↓D.flat, ↓at_fn, ↓at_kw, ↓at_cs, b__law_grid_8, ↓tf0, ↓tf1, ↓tf2, ↓tf3, ↓tf4, ↓tf5, ↓tf6, ↓tf7, ↓tf8, ↓tf9, ↓tf10, ↓tf11, ↓tf12, ↓tf13, ↓tf14, ↓tf15, ↓tf16, ↓tf17, ↓tf18, ↓tf19, ↓tf20, ↓tf21, ↓tf22, ↓tf23, ↓tf24, ↓tf25, ↓tf26, ↓tf27, ↓tf28, ↓tf29, ↓tf30, ↓tf31, ↓tf32, ↓tf33, ↓tf34, ↓tf35, ↓tf36, ↓tf37, ↓tf38, ↓tf39, ↓tf40, ↓tf41, ↓tf42, ↓tf43, ↓S__law_draw]
      refine ite2 (fun _ => ⟨by omega, by omega, hw4, fun r2 w5 p0 p1 hw5 => ⟨by omega, ?_⟩⟩) fun _ => ⟨by omega, ?_⟩
      · obtain ⟨q, rfl⟩ := nat_of p0
        exact put (some q) _ _ _ (fun k e => by cases e; omega) hw5
      · exact put none _ _ _ (fun k e => by cases e) hw4
    · rintro ρ w'' ⟨hw'', hj, r, x6, x9, x11, hrl, hro, rfl⟩
      rw [rngD_length] at hrl
      simp (maxSteps := 2000000) [↓wSs, ↓wS, ↓wE, ↓wEs, ↓wAnd, ↓wOr, ↓wO, ↓wC, ↓wI, ↓slot, ↓asI, ↓asB, ↓asS, ↓asL, ↓items, ↓itemsL, ↓cop, ↓bop, ↓prim, at0, at1, at2, ↓tsS, ↓subS, ↓Ev.putIn, ↓sto, ↓dg, ↓fvE, ↓fvEs, ↓fvO, ↓fvI, ↓frp, ↓D.pure, ↓pureAll, ↓bindT, ↓tgl, ↓wipeS, ↓isTy, ↓D.eqOk, ↓D.isStr, ↓D.flat, ↓at_fn, ↓at_kw, ↓at_cs, b__law_grid_7]
      refine ⟨by omega, hN _ _ ⟨hw'', hi', g ++ [r], _, _, _, _, _, _, by simp [hg], fun y hy => ?_, by rw [List.map_append]; rfl⟩⟩
      rcases List.mem_append.mp hy with z | z
      · exact hr y z
      · have : y = r := by simpa using z
        rw [this]; exact ⟨hrl, hro⟩
  · rintro ρ w' ⟨hw', hin, g, x6, x7, x8, x9, x10, x11, hg, hr, rfl⟩
    rw [rngD_length] at hg
    have fin : ∀ (g : List (List (Option Nat))) (x6 x7 x8 x9 x10 x11 : Option (D × Nat)) w', g.length = n → (∀ r ∈ g, r.length = n ∧ ∀ o ∈ r, ∀ k, o = some k → k ≤ 9) → Wk w' →
        wSs (TT.at 3) b__law_grid_2 [some (.wel, 0), some (.int (bb : Nat), 0), some (.int (n : Nat), 2), some (.int (st' : Nat), 2), some (.int (hi : Nat), 2), some (.lst (g.map fun r => .lst (r.map ofO)), 2), x6, x7, x8, x9, x10, x11] w' { nx := fun _ w' => K .non 2 w', rt := K } E := fun g x6 x7 x8 x9 x10 x11 w' hg hr hw' => by
      simp (maxSteps := 2000000) [↓wSs, ↓wS, ↓wE, ↓wEs, ↓wAnd, ↓wOr, ↓wO, ↓wC, ↓wI, ↓slot, ↓asI, ↓asB, ↓asS, ↓asL, ↓items, ↓itemsL, ↓cop, ↓bop, ↓prim, at0, at1, at2, ↓tsS, ↓subS, ↓Ev.putIn, ↓sto, ↓dg, ↓fvE, ↓fvEs, ↓fvO, ↓fvI, ↓frp, ↓D.pure, ↓pureAll, ↓bindT, ↓tgl, ↓wipeS, ↓isTy, ↓D.eqOk, ↓D.isStr, ↓D.flat, ↓at_fn, ↓at_kw, ↓at_cs, b__law_grid_2]
      refine turns_on (h := fun r => .tup (r.map ofO)) (by omega) (fun r hr' acc N2 hl hN2 => ?_) ?_
      · have po : pureAll (r.map ofO) = true := pureAll_map pure_O r
        simp (maxSteps := 2000000) [↓wSs, ↓wS, ↓wE, ↓wEs, ↓wAnd, ↓wOr, ↓wO, ↓wC, ↓wI, ↓slot, ↓asI, ↓asB, ↓asS, ↓asL, ↓items, ↓itemsL, ↓cop, ↓bop, ↓prim, at0, at1, at2, ↓tsS, ↓subS, ↓Ev.putIn, ↓sto, ↓dg, ↓fvE, ↓fvEs, ↓fvO, ↓fvI, ↓frp, ↓D.pure, ↓pureAll, ↓bindT, ↓tgl, ↓wipeS, ↓isTy, ↓D.eqOk, ↓D.isStr, ↓D.flat, ↓at_fn, ↓at_kw, ↓at_cs, e__law_grid_1, po]
        exact ⟨hl, hN2⟩
      · have pg : pureAll (g.map fun r => D.tup (r.map ofO)) = true := pureAll_map (fun r => by simp only [D.pure]; exact pureAll_map pure_O r) g
        simp (maxSteps := 2000000) [↓wSs, ↓wS, ↓wE, ↓wEs, ↓wAnd, ↓wOr, ↓wO, ↓wC, ↓wI, ↓slot, ↓asI, ↓asB, ↓asS, ↓asL, ↓items, ↓itemsL, ↓cop, ↓bop, ↓prim, at0, at1, at2, ↓tsS, ↓subS, ↓Ev.putIn, ↓sto, ↓dg, ↓fvE, ↓fvEs, ↓fvO, ↓fvI, ↓frp, ↓D.pure, ↓pureAll, ↓bindT, ↓tgl, ↓wipeS, ↓isTy, ↓D.eqOk, ↓D.isStr, ↓D.flat, ↓at_fn, ↓at_kw, ↓at_cs, pg]
        refine k g w' ⟨?_, by omega, fun r h => ?_⟩ hw'
        · rintro rfl
          simp at hg
          omega
        · obtain ⟨z1, z2⟩ := hr r h
          exact ⟨by omega, z2⟩
    simp (maxSteps := 2000000) [↓wSs, ↓wS, ↓wE, ↓wEs, ↓wAnd, ↓wOr, ↓wO, ↓wC, ↓wI, ↓slot, ↓asI, ↓asB, ↓asS, ↓asL, ↓items, ↓itemsL, ↓cop, ↓bop, ↓prim, at0, at1, at2, ↓tsS, ↓subS, ↓Ev.putIn, ↓sto, ↓dg, ↓fvE, ↓fvEs, ↓fvO, ↓fvI, ↓frp, ↓D.pure, ↓pureAll, ↓bindT, ↓tgl, ↓wipeS, ↓isTy, ↓D.eqOk, ↓D.isStr, ↓D.flat, ↓at_fn, ↓at_kw, ↓at_cs, b__law_grid_6, ↓tf0, ↓tf1, ↓tf2, ↓tf3, ↓tf4, ↓tf5, ↓tf6, ↓tf7, ↓tf8, ↓tf9, ↓tf10, ↓tf11, ↓tf12, ↓tf13, ↓tf14, ↓tf15, ↓tf16, ↓tf17, ↓tf18, ↓tf19, ↓tf20, ↓tf21, ↓tf22, ↓tf23, ↓tf24, ↓tf25, ↓tf26, ↓tf27, ↓tf28, ↓tf29, ↓tf30, ↓tf31, ↓tf32, ↓tf33, ↓tf34, ↓tf35, ↓tf36, ↓tf37, ↓tf38, ↓tf39, ↓tf40, ↓tf41, ↓tf42, ↓tf43, ↓S__law_draw]
    refine ⟨hw', fun r w4 _ _ hw4 => ?_⟩
    simp (maxSteps := 2000000) [↓wSs, ↓wS, ↓wE, ↓wEs, ↓wAnd, ↓wOr, ↓wO, ↓wC, ↓wI, ↓slot, ↓asI, ↓asB, ↓asS, ↓asL, ↓items, ↓itemsL, ↓cop, ↓bop, ↓prim, at0, at1, at2, ↓tsS, ↓subS, ↓Ev.putIn, ↓sto, ↓dg, ↓fvE, ↓fvEs, ↓fvO, ↓fvI, ↓frp, ↓D.pure, ↓pureAll, ↓bindT, ↓tgl, ↓wipeS, ↓isTy, ↓D.eqOk, ↓D.isStr, ↓D.flat, ↓at_fn, ↓at_kw, ↓at_cs, b__law_grid_5, ↓tf0, ↓tf1, ↓tf2, ↓tf3, ↓tf4, ↓tf5, ↓tf6, ↓tf7, ↓tf8, ↓tf9, ↓tf10, ↓tf11, ↓tf12, ↓tf13, ↓tf14, ↓tf15, ↓tf16, ↓tf17, ↓tf18, ↓tf19, ↓tf20, ↓tf21, ↓tf22, ↓tf23, ↓tf24, ↓tf25, ↓tf26, ↓tf27, ↓tf28, ↓tf29, ↓tf30, ↓tf31, ↓tf32, ↓tf33, ↓tf34, ↓tf35, ↓tf36, ↓tf37, ↓tf38, ↓tf39, ↓tf40, ↓tf41, ↓tf42, ↓tf43, ↓S__law_order_list, pa_N]
    refine ite2 (fun _ => ?_) fun _ => fin g _ _ _ _ _ _ w4 hg hr hw4
    refine ⟨n, rfl, n4, hw4, fun l w5 hl hlt hw5 => ?_⟩
    simp (maxSteps := 2000000) [↓wSs, ↓wS, ↓wE, ↓wEs, ↓wAnd, ↓wOr, ↓wO, ↓wC, ↓wI, ↓slot, ↓asI, ↓asB, ↓asS, ↓asL, ↓items, ↓itemsL, ↓cop, ↓bop, ↓prim, at0, at1, at2, ↓tsS, ↓subS, ↓Ev.putIn, ↓sto, ↓dg, ↓fvE, ↓fvEs, ↓fvO, ↓fvI, ↓frp, ↓D.pure, ↓pureAll, ↓bindT, ↓tgl, ↓wipeS, ↓isTy, ↓D.eqOk, ↓D.isStr, ↓D.flat, ↓at_fn, ↓at_kw, ↓at_cs, b__law_grid_4, pa_N]
    refine ⟨by omega, ?_⟩
    refine forS_from (fun i ρ w' => Wk w' ∧ i ≤ n ∧ ∃ (g : List (List (Option Nat))) (x6 x7 x8 x9 x11 : Option (D × Nat)), g.length = n ∧ (∀ r ∈ g, r.length = n ∧ ∀ o ∈ r, ∀ k, o = some k → k ≤ 9) ∧ ρ = [some (.wel, 0), some (.int (bb : Nat), 0), some (.int (n : Nat), 2), some (.int (st' : Nat), 2), some (.int (hi : Nat), 2), some (.lst (g.map fun r => .lst (r.map ofO)), 2), x6, x7, x8, x9, some (.lst (l.map natD), 2), x11]) ?_ ?_ ?_
    · exact ⟨hw5, Nat.zero_le _, g, _, _, _, _, _, hg, hr, rfl⟩
    · rintro i x ρ w' N hx ⟨hw', hin, g, x6, x7, x8, x9, x11, hg, hr, rfl⟩ hN
      obtain ⟨hi', rfl⟩ := rngD_of hx
      have hgi : i < g.length := by omega
      have hli : i < l.length := by omega
      obtain ⟨q1, q2⟩ := hr g[i] (List.getElem_mem hgi)
      have ho := hlt l[i] (List.getElem_mem hli)
      have hoi : l[i] < g[i].length := by omega
      have a1 : atI (g.map fun r => D.lst (r.map ofO)) ((i : Nat) : Int) = some (.lst (g[i].map ofO)) := atI_nat (by rw [List.getElem?_map, List.getElem?_eq_getElem hgi]; rfl)
      have a2 : atI (l.map natD) ((i : Nat) : Int) = some (.int (l[i] : Nat)) := atI_nat (by rw [List.getElem?_map, List.getElem?_eq_getElem hli]; rfl)
      have a3 : atI (g[i].map ofO) ((l[i] : Nat) : Int) = some (ofO g[i][l[i]]) := atI_nat (by rw [List.getElem?_map, List.getElem?_eq_getElem hoi]; rfl)
      cases hx : g[i][l[i]] with
      | some v =>
        have e1 : ofO (some v) = .int (v : Nat) := rfl
        rw [hx] at a3
        simp (maxSteps := 2000000) [↓wSs, ↓wS, ↓wE, ↓wEs, ↓wAnd, ↓wOr, ↓wO, ↓wC, ↓wI, ↓slot, ↓asI, ↓asB, ↓asS, ↓asL, ↓items, ↓itemsL, ↓cop, ↓bop, ↓prim, at0, at1, at2, ↓tsS, ↓subS, ↓Ev.putIn, ↓sto, ↓dg, ↓fvE, ↓fvEs, ↓fvO, ↓fvI, ↓frp, ↓D.pure, ↓pureAll, ↓bindT, ↓tgl, ↓wipeS, ↓isTy, ↓D.eqOk, ↓D.isStr, ↓D.flat, ↓at_fn, ↓at_kw, ↓at_cs, b__law_grid_3, a1, a2, a3, e1, Ev.isNon]
        exact hN _ _ ⟨hw', hi', g, _, _, _, _, _, hg, hr, rfl⟩
      | none =>
        have e1 : ofO none = .non := rfl
        rw [hx] at a3
        have b1 : ixN g.length ((i : Nat) : Int) = some i := ixN_at hgi
        have b2 : ixN g[i].length ((l[i] : Nat) : Int) = some l[i] := ixN_at hoi
        have b3 : (g.map fun r => D.lst (r.map ofO))[i]? = some (.lst (g[i].map ofO)) := by rw [List.getElem?_map, List.getElem?_eq_getElem hgi]; rfl
        simp (maxSteps := 2000000) [↓wSs, ↓wS, ↓wE, ↓wEs, ↓wAnd, ↓wOr, ↓wO, ↓wC, ↓wI, ↓slot, ↓asI, ↓asB, ↓asS, ↓asL, ↓items, ↓itemsL, ↓cop, ↓bop, ↓prim, at0, at1, at2, ↓tsS, ↓subS, ↓Ev.putIn, ↓sto, ↓dg, ↓fvE, ↓fvEs, ↓fvO, ↓fvI, ↓frp, ↓D.pure, ↓pureAll, ↓bindT, ↓tgl, ↓wipeS, ↓isTy, ↓D.eqOk, ↓D.isStr, ↓D.flat, ↓at_fn, ↓at_kw, ↓at_cs, b__law_grid_3, a1, a2, a3, e1, Ev.isNon, ↓tf0, ↓tf1, ↓tf2, ↓tf3, ↓tf4, ↓tf5, ↓tf6, ↓tf7, ↓tf8, ↓tf9, ↓tf10, ↓tf11, ↓tf12, ↓tf13, ↓tf14, ↓tf15, ↓tf16, ↓tf17, ↓tf18, ↓tf19, ↓tf20, ↓tf21, ↓tf22, ↓tf23, ↓tf24, ↓tf25, ↓tf26, ↓tf27, ↓tf28, ↓tf29, ↓tf30, ↓tf31, ↓tf32, ↓tf33, ↓tf34, ↓tf35, ↓tf36, ↓tf37, ↓tf38, ↓tf39, ↓tf40, ↓tf41, ↓tf42, ↓tf43, ↓S__law_draw, b1, b2, b3]
        refine ⟨by omega, by omega, hw', fun r6 w6 p0 p1 hw6 => ?_⟩
        obtain ⟨q, rfl⟩ := nat_of p0
        refine hN _ _ ⟨hw6, hi', g.set i (g[i].set l[i] (some q)), some (.int (i : Nat), 0), x7, x8, x9, x11, by simp [hg], fun y hy => ?_, ?_⟩
        · rcases List.mem_or_eq_of_mem_set hy with z | z
          · exact hr y z
          · subst z
            refine ⟨by simp [q1], fun o ho => ?_⟩
            rcases List.mem_or_eq_of_mem_set ho with z | z
            · exact q2 o z
            · rintro k' rfl
              cases z
              omega
        · rw [List.map_set, List.map_set]
          rfl
    · rintro ρ w' ⟨hw', hin, g, x6, x7, x8, x9, x11, hg, hr, rfl⟩
      exact fin g _ _ _ _ _ _ w' hg hr hw'
end K02

set_option Elab.async false
set_option linter.all false
set_option maxRecDepth 100000
set_option maxHeartbeats 8000000
namespace K02
open PySem PySem.Spec PyProof.Rows L2 Ev

/-! ### bounds -/
theorem Ob.mono {t p M s t' p' M' s' : Nat} {d : D} (h : Ob t p M s d) (h1 : t ≤ t') (h2 : p ≤ p') (h3 : M ≤ M') (h4 : s ≤ s') : Ob t' p' M' s' d :=
  ⟨h.v, h.r, Nat.le_trans h.t h1, Nat.le_trans h.p h2, Nat.le_trans h.m h3, Nat.le_trans h.s h4⟩
theorem ObA.mono {t p M s t' p' M' s' : Nat} {d : List D} (h : ObA t p M s d) (h1 : t ≤ t') (h2 : p ≤ p') (h3 : M ≤ M') (h4 : s ≤ s') : ObA t' p' M' s' d :=
  ⟨h.v, h.r, Nat.le_trans h.t h1, Nat.le_trans h.p h2, Nat.le_trans h.m h3, Nat.le_trans h.s h4⟩
theorem ObA.nil {t p M s : Nat} : ObA t p M s [] := ⟨rfl, rfl, Nat.zero_le _, Nat.zero_le _, Nat.zero_le _, Nat.zero_le _⟩
theorem ObA.cons {t p M s n : Nat} {d : D} {ds : List D} (h : Ob t p M n d) (g : ObA t p M s ds) : ObA t p M (n + 2 + s) (d :: ds) := by
  obtain ⟨h1, h2, h3, h4, h5, h6⟩ := h
  obtain ⟨g1, g2, g3, g4, g5, g6⟩ := g
  refine ⟨by simp [vlAll, h1, g1], by simp [rdtAll, h2, g2], ?_, ?_, ?_, ?_⟩
  · simp only [tdAll]; omega
  · simp only [depAll]; omega
  · simp only [miAll]; omega
  · simp only [sgnAll]; omega
theorem ObA.uncons {t p M s : Nat} {d : D} {ds : List D} (h : ObA t p M s (d :: ds)) : ∃ n m, Ob t p M n d ∧ ObA t p M m ds ∧ n + 2 + m ≤ s := by
  obtain ⟨h1, h2, h3, h4, h5, h6⟩ := h
  simp only [vlAll, rdtAll, tdAll, depAll, miAll, sgnAll, Bool.and_eq_true] at h1 h2 h3 h4 h5 h6
  exact ⟨d.sgn, sgnAll ds, ⟨h1.1, h2.1, by omega, by omega, by omega, Nat.le_refl _⟩, ⟨h1.2, h2.2, by omega, by omega, by omega, Nat.le_refl _⟩, h6⟩
theorem ObA.app {t p M s n : Nat} {a b : List D} (h : ObA t p M s a) (g : ObA t p M n b) : ObA t p M (s + n) (a ++ b) := by
  induction a generalizing s with
  | nil => exact g.mono (Nat.le_refl _) (Nat.le_refl _) (Nat.le_refl _) (by omega)
  | cons d a ih =>
    obtain ⟨x, y, h1, h2, h3⟩ := h.uncons
    exact (ObA.cons h1 (ih h2)).mono (Nat.le_refl _) (Nat.le_refl _) (Nat.le_refl _) (by omega)
theorem ObA.unapp {t p M s : Nat} {a b : List D} (h : ObA t p M s (a ++ b)) : ∃ n m, ObA t p M n a ∧ ObA t p M m b ∧ n + m ≤ s := by
  induction a generalizing s with
  | nil => exact ⟨0, s, .nil, h, by omega⟩
  | cons d a ih =>
    obtain ⟨x, y, h1, h2, h3⟩ := ObA.uncons h
    obtain ⟨n, m, q1, q2, q3⟩ := ih h2
    exact ⟨x + 2 + n, m, .cons h1 q1, q2, by omega⟩
theorem ObA.mem {t p M s : Nat} {ds : List D} (h : ObA t p M s ds) {x : D} (hx : x ∈ ds) : Ob t p M s x := by
  induction ds generalizing s with
  | nil => simp at hx
  | cons d ds ih =>
    obtain ⟨n, m, h1, h2, h3⟩ := h.uncons
    rcases List.mem_cons.mp hx with rfl | hx
    · exact h1.mono (Nat.le_refl _) (Nat.le_refl _) (Nat.le_refl _) (by omega)
    · exact (ih h2 hx).mono (Nat.le_refl _) (Nat.le_refl _) (Nat.le_refl _) (by omega)
theorem ObA.tup {t p M s : Nat} {ds : List D} (h : ObA t p M s ds) : Ob (t + 1) (p + 1) M (s + 4) (.tup ds) := by
  obtain ⟨h1, h2, h3, h4, h5, h6⟩ := h
  refine ⟨h1, h2, ?_, ?_, h5, ?_⟩
  · simp only [td]; omega
  · simp only [D.dep]; omega
  · simp only [D.sgn]; omega
theorem ObA.lst {t p M s : Nat} {ds : List D} (h : ObA t p M s ds) : Ob 0 (p + 1) M (s + 4) (.lst ds) := by
  obtain ⟨h1, h2, h3, h4, h5, h6⟩ := h
  refine ⟨h1, h2, ?_, ?_, h5, ?_⟩
  · simp only [td]; omega
  · simp only [D.dep]; omega
  · simp only [D.sgn]; omega
theorem Ob.untup {t p M s : Nat} {ds : List D} (h : Ob t p M s (.tup ds)) : ∃ t' p' s', t = t' + 1 ∧ p = p' + 1 ∧ s = s' + 4 ∧ ObA t' p' M s' ds := by
  obtain ⟨h1, h2, h3, h4, h5, h6⟩ := h
  simp only [td, D.dep, D.sgn] at h3 h4 h6
  exact ⟨t - 1, p - 1, s - 4, by omega, by omega, by omega, h1, h2, by omega, by omega, h5, by omega⟩
theorem sgn_len : ∀ ds : List D, 2 * ds.length ≤ sgnAll ds
  | [] => by simp [sgnAll]
  | d :: ds => by
    have := sgn_len ds
    simp only [sgnAll, List.length_cons]
    omega
theorem od_items {ds : List D} (h : Od (.tup ds)) : ds.length ≤ 500000 ∧ ∀ x ∈ ds, Od x := by
  obtain ⟨t', p', s', h1, h2, h3, h4⟩ := Ob.untup h
  have l := sgn_len ds
  have := h4.s
  exact ⟨by omega, fun x hx => (h4.mem hx).mono (by omega) (by omega) (Nat.le_refl _) (by omega)⟩
theorem nil_t (xs : List D) : nilP (.tup xs) (.tup []) = true := rfl
theorem nil_l (xs : List D) : nilP (.lst xs) (.lst []) = true := rfl
theorem eqn_t (xs : List D) : eqD (.tup xs) (.tup []) = xs.isEmpty := by cases xs <;> rfl
theorem eqn_l (xs : List D) : eqD (.lst xs) (.lst []) = xs.isEmpty := by cases xs <;> rfl
theorem p_is_whole : ∀ ds w K E, S_is_whole ds w K E → ds.length = 1 ∧ wSs (TT.at 26) b_is_whole (startS 1 ds) w { nx := fun _ w' => K .non 2 w', rt := K } E := by
  rintro ds w K E ⟨d, rfl, hv, k⟩
  refine ⟨rfl, ?_⟩
  show wSs _ b_is_whole [some (d, 0)] _ _ _
  cases d <;> first | (exact absurd hv.v Bool.false_ne_true) | (simp (maxSteps := 2000000) [↓wSs, ↓wS, ↓wE, ↓wEs, ↓wAnd, ↓wOr, ↓wO, ↓wC, ↓wI, ↓slot, ↓asI, ↓asB, ↓asS, ↓asL, ↓items, ↓itemsL, ↓cop, ↓bop, ↓prim, at0, at1, at2, ↓tsS, ↓subS, ↓Ev.putIn, ↓sto, ↓dg, ↓fvE, ↓fvEs, ↓fvO, ↓fvI, ↓frp, ↓D.pure, ↓pureAll, ↓bindT, ↓tgl, ↓wipeS, ↓isTy, ↓D.eqOk, ↓D.isStr, ↓D.flat, ↓at_fn, ↓at_kw, ↓at_cs, b_is_whole]; exact k)
theorem p__law_is_whole : ∀ ds w K E, S__law_is_whole ds w K E → ds.length = 1 ∧ wSs (TT.at 20) b__law_is_whole (startS 1 ds) w { nx := fun _ w' => K .non 2 w', rt := K } E := by
  rintro ds w K E ⟨d, rfl, hv, k⟩
  refine ⟨rfl, ?_⟩
  show wSs _ b__law_is_whole [some (d, 0)] _ _ _
  cases d <;> first | (exact absurd hv.v Bool.false_ne_true) | (simp (maxSteps := 2000000) [↓wSs, ↓wS, ↓wE, ↓wEs, ↓wAnd, ↓wOr, ↓wO, ↓wC, ↓wI, ↓slot, ↓asI, ↓asB, ↓asS, ↓asL, ↓items, ↓itemsL, ↓cop, ↓bop, ↓prim, at0, at1, at2, ↓tsS, ↓subS, ↓Ev.putIn, ↓sto, ↓dg, ↓fvE, ↓fvEs, ↓fvO, ↓fvI, ↓frp, ↓D.pure, ↓pureAll, ↓bindT, ↓tgl, ↓wipeS, ↓isTy, ↓D.eqOk, ↓D.isStr, ↓D.flat, ↓at_fn, ↓at_kw, ↓at_cs, b__law_is_whole]; exact k)
theorem fm_eq {p : D → Bool} (xs : List D) : (false ∈ xs.map p) = (xs.all p = false) := by
  apply propext
  rw [List.all_eq_false]
  simp
theorem isW_int {d : D} (h : isW d = true) : ∃ i, d = .int i := by
  cases d <;> first | exact ⟨_, rfl⟩ | (simp [isW] at h; done)
theorem isQ_W {x y : D} (h : isW x = false ∨ isW y = false) : isQ (.tup [x, y]) = false := by
  rcases h with h | h <;> cases x <;> cases y <;> first | rfl | (simp [isW] at h; done)
theorem bls_map {p : D → Bool} (xs : List D) : blsOf (xs.map fun d => D.bl (p d)) = some (xs.map p) := all_map (p := p)
theorem all_id {p : D → Bool} (xs : List D) : (xs.map p).all id = xs.all p := by simp [List.all_map]
theorem p_are_wholes : ∀ ds w K E, S_are_wholes ds w K E → ds.length = 2 ∧ wSs (TT.at 27) b_are_wholes (startS 3 ds) w { nx := fun _ w' => K .non 2 w', rt := K } E := by
  rintro ds w K E ⟨d, rfl, hv, k⟩
  refine ⟨rfl, ?_⟩
  show wSs _ b_are_wholes [some (d, 0), some (.int 2, 0), none] _ _ _
  cases d with
  | tup xs =>
    have hx := (od_items hv).2
    by_cases h : xs.length = 2
    · have h' : ((xs.length : Nat) : Int) = 2 := by omega
      simp (maxSteps := 2000000) [↓wSs, ↓wS, ↓wE, ↓wEs, ↓wAnd, ↓wOr, ↓wO, ↓wC, ↓wI, ↓slot, ↓asI, ↓asB, ↓asS, ↓asL, ↓items, ↓itemsL, ↓cop, ↓bop, ↓prim, at0, at1, at2, ↓tsS, ↓subS, ↓Ev.putIn, ↓sto, ↓dg, ↓fvE, ↓fvEs, ↓fvO, ↓fvI, ↓frp, ↓D.pure, ↓pureAll, ↓bindT, ↓tgl, ↓wipeS, ↓isTy, ↓D.eqOk, ↓D.isStr, ↓D.flat, ↓at_fn, ↓at_kw, ↓at_cs, b_are_wholes, h', ok_int, eqD_int]
      refine turns_map (g := fun d => .bl (isW d)) (by omega) (fun i x acc N hxi hacc hN => ?_) ?_
      · simp (maxSteps := 2000000) [↓wSs, ↓wS, ↓wE, ↓wEs, ↓wAnd, ↓wOr, ↓wO, ↓wC, ↓wI, ↓slot, ↓asI, ↓asB, ↓asS, ↓asL, ↓items, ↓itemsL, ↓cop, ↓bop, ↓prim, at0, at1, at2, ↓tsS, ↓subS, ↓Ev.putIn, ↓sto, ↓dg, ↓fvE, ↓fvEs, ↓fvO, ↓fvI, ↓frp, ↓D.pure, ↓pureAll, ↓bindT, ↓tgl, ↓wipeS, ↓isTy, ↓D.eqOk, ↓D.isStr, ↓D.flat, ↓at_fn, ↓at_kw, ↓at_cs, e_are_wholes_1, ↓tf0, ↓tf1, ↓tf2, ↓tf3, ↓tf4, ↓tf5, ↓tf6, ↓tf7, ↓tf8, ↓tf9, ↓tf10, ↓tf11, ↓tf12, ↓tf13, ↓tf14, ↓tf15, ↓tf16, ↓tf17, ↓tf18, ↓tf19, ↓tf20, ↓tf21, ↓tf22, ↓tf23, ↓tf24, ↓tf25, ↓tf26, ↓tf27, ↓tf28, ↓tf29, ↓tf30, ↓tf31, ↓tf32, ↓tf33, ↓tf34, ↓tf35, ↓tf36, ↓tf37, ↓tf38, ↓tf39, ↓tf40, ↓tf41, ↓tf42, ↓tf43, ↓S_is_whole]
        exact ⟨hx x (List.mem_of_getElem? hxi), hacc, hN⟩
      · refine ⟨_, bls_map xs, ?_⟩
        rw [all_id]
        simpa [areW, h] using k
    · have h' : ¬ ((xs.length : Nat) : Int) = 2 := by omega
      simp (maxSteps := 2000000) [↓wSs, ↓wS, ↓wE, ↓wEs, ↓wAnd, ↓wOr, ↓wO, ↓wC, ↓wI, ↓slot, ↓asI, ↓asB, ↓asS, ↓asL, ↓items, ↓itemsL, ↓cop, ↓bop, ↓prim, at0, at1, at2, ↓tsS, ↓subS, ↓Ev.putIn, ↓sto, ↓dg, ↓fvE, ↓fvEs, ↓fvO, ↓fvI, ↓frp, ↓D.pure, ↓pureAll, ↓bindT, ↓tgl, ↓wipeS, ↓isTy, ↓D.eqOk, ↓D.isStr, ↓D.flat, ↓at_fn, ↓at_kw, ↓at_cs, b_are_wholes, h', ok_int, eqD_int]
      simpa [areW, h] using k
  | _ => first | (exact absurd hv.v Bool.false_ne_true) | (simp (maxSteps := 2000000) [↓wSs, ↓wS, ↓wE, ↓wEs, ↓wAnd, ↓wOr, ↓wO, ↓wC, ↓wI, ↓slot, ↓asI, ↓asB, ↓asS, ↓asL, ↓items, ↓itemsL, ↓cop, ↓bop, ↓prim, at0, at1, at2, ↓tsS, ↓subS, ↓Ev.putIn, ↓sto, ↓dg, ↓fvE, ↓fvEs, ↓fvO, ↓fvI, ↓frp, ↓D.pure, ↓pureAll, ↓bindT, ↓tgl, ↓wipeS, ↓isTy, ↓D.eqOk, ↓D.isStr, ↓D.flat, ↓at_fn, ↓at_kw, ↓at_cs, b_are_wholes]; exact k)
theorem p_divisor_of : ∀ ds w K E, S_divisor_of ds w K E → ds.length = 1 ∧ wSs (TT.at 28) b_divisor_of (startS 3 ds) w { nx := fun _ w' => K .non 2 w', rt := K } E := by
  rintro ds w K E ⟨a, b, rfl, k⟩
  refine ⟨rfl, ?_⟩
  show wSs _ b_divisor_of [some (.tup [.int a, .int b], 0), none, none] _ _ _
  simp (maxSteps := 2000000) [↓wSs, ↓wS, ↓wE, ↓wEs, ↓wAnd, ↓wOr, ↓wO, ↓wC, ↓wI, ↓slot, ↓asI, ↓asB, ↓asS, ↓asL, ↓items, ↓itemsL, ↓cop, ↓bop, ↓prim, ↓atI, ↓ixN, ↓tsS, ↓subS, ↓Ev.putIn, ↓sto, ↓dg, ↓fvE, ↓fvEs, ↓fvO, ↓fvI, ↓frp, ↓D.pure, ↓pureAll, ↓bindT, ↓tgl, ↓wipeS, ↓isTy, ↓D.eqOk, ↓D.isStr, ↓D.flat, ↓at_fn, ↓at_kw, ↓at_cs, b_divisor_of, b_divisor_of_1, b_divisor_of_2, forS]
  exact k
theorem areW2 {d : D} (h : areW d 2 = true) : ∃ a b : Int, d = .tup [.int a, .int b] := by
  cases d with
  | tup xs =>
    simp only [areW, Bool.and_eq_true, decide_eq_true_eq] at h
    match xs, h with
    | [x, y], ⟨_, h⟩ =>
      simp only [List.all_cons, List.all_nil, Bool.and_true, Bool.and_eq_true] at h
      cases x <;> cases y <;> first | exact ⟨_, _, rfl⟩ | (simp [isW] at h; done)
  | _ => simp [areW] at h
theorem isQ_no {d : D} (h : areW d 2 = false) : isQ d = false := by
  cases q : isQ d with
  | false => rfl
  | true =>
    unfold isQ at q
    split at q
    · simp [areW, isW] at h
    · cases q
theorem p_is_ratio : ∀ ds w K E, S_is_ratio ds w K E → ds.length = 1 ∧ wSs (TT.at 29) b_is_ratio (startS 1 ds) w { nx := fun _ w' => K .non 2 w', rt := K } E := by
  rintro ds w K E ⟨d, rfl, hv, k⟩
  refine ⟨rfl, ?_⟩
  show wSs _ b_is_ratio [some (d, 0)] _ _ _
  simp (maxSteps := 2000000) [↓wSs, ↓wS, ↓wE, ↓wEs, ↓wAnd, ↓wOr, ↓wO, ↓wC, ↓wI, ↓slot, ↓asI, ↓asB, ↓asS, ↓asL, ↓items, ↓itemsL, ↓cop, ↓bop, ↓prim, at0, at1, at2, ↓tsS, ↓subS, ↓Ev.putIn, ↓sto, ↓dg, ↓fvE, ↓fvEs, ↓fvO, ↓fvI, ↓frp, ↓D.pure, ↓pureAll, ↓bindT, ↓tgl, ↓wipeS, ↓isTy, ↓D.eqOk, ↓D.isStr, ↓D.flat, ↓at_fn, ↓at_kw, ↓at_cs, b_is_ratio, ↓tf0, ↓tf1, ↓tf2, ↓tf3, ↓tf4, ↓tf5, ↓tf6, ↓tf7, ↓tf8, ↓tf9, ↓tf10, ↓tf11, ↓tf12, ↓tf13, ↓tf14, ↓tf15, ↓tf16, ↓tf17, ↓tf18, ↓tf19, ↓tf20, ↓tf21, ↓tf22, ↓tf23, ↓tf24, ↓tf25, ↓tf26, ↓tf27, ↓tf28, ↓tf29, ↓tf30, ↓tf31, ↓tf32, ↓tf33, ↓tf34, ↓tf35, ↓tf36, ↓tf37, ↓tf38, ↓tf39, ↓tf40, ↓tf41, ↓tf42, ↓tf43, ↓S_are_wholes]
  refine ⟨hv, ?_⟩
  cases h : areW d 2 with
  | false =>
    rw [isQ_no h] at k
    simpa using k
  | true =>
    obtain ⟨a, b, rfl⟩ := areW2 h
    simp only [isQ] at k
    by_cases hb : 0 < b
    · simp (maxSteps := 2000000) [↓wSs, ↓wS, ↓wE, ↓wEs, ↓wAnd, ↓wOr, ↓wO, ↓wC, ↓wI, ↓slot, ↓asI, ↓asB, ↓asS, ↓asL, ↓items, ↓itemsL, ↓cop, ↓bop, ↓prim, at0, at1, at2, ↓tsS, ↓subS, ↓Ev.putIn, ↓sto, ↓dg, ↓fvE, ↓fvEs, ↓fvO, ↓fvI, ↓frp, ↓D.pure, ↓pureAll, ↓bindT, ↓tgl, ↓wipeS, ↓isTy, ↓D.eqOk, ↓D.isStr, ↓D.flat, ↓at_fn, ↓at_kw, ↓at_cs, hb, ↓tf0, ↓tf1, ↓tf2, ↓tf3, ↓tf4, ↓tf5, ↓tf6, ↓tf7, ↓tf8, ↓tf9, ↓tf10, ↓tf11, ↓tf12, ↓tf13, ↓tf14, ↓tf15, ↓tf16, ↓tf17, ↓tf18, ↓tf19, ↓tf20, ↓tf21, ↓tf22, ↓tf23, ↓tf24, ↓tf25, ↓tf26, ↓tf27, ↓tf28, ↓tf29, ↓tf30, ↓tf31, ↓tf32, ↓tf33, ↓tf34, ↓tf35, ↓tf36, ↓tf37, ↓tf38, ↓tf39, ↓tf40, ↓tf41, ↓tf42, ↓tf43, ↓S_divisor_of, ok_int, eqD_int]
      exact ⟨a, b, ⟨rfl, rfl⟩, by simpa [hb] using k⟩
    · simp (maxSteps := 2000000) [↓wSs, ↓wS, ↓wE, ↓wEs, ↓wAnd, ↓wOr, ↓wO, ↓wC, ↓wI, ↓slot, ↓asI, ↓asB, ↓asS, ↓asL, ↓items, ↓itemsL, ↓cop, ↓bop, ↓prim, at0, at1, at2, ↓tsS, ↓subS, ↓Ev.putIn, ↓sto, ↓dg, ↓fvE, ↓fvEs, ↓fvO, ↓fvI, ↓frp, ↓D.pure, ↓pureAll, ↓bindT, ↓tgl, ↓wipeS, ↓isTy, ↓D.eqOk, ↓D.isStr, ↓D.flat, ↓at_fn, ↓at_kw, ↓at_cs, hb, ↓tf0, ↓tf1, ↓tf2, ↓tf3, ↓tf4, ↓tf5, ↓tf6, ↓tf7, ↓tf8, ↓tf9, ↓tf10, ↓tf11, ↓tf12, ↓tf13, ↓tf14, ↓tf15, ↓tf16, ↓tf17, ↓tf18, ↓tf19, ↓tf20, ↓tf21, ↓tf22, ↓tf23, ↓tf24, ↓tf25, ↓tf26, ↓tf27, ↓tf28, ↓tf29, ↓tf30, ↓tf31, ↓tf32, ↓tf33, ↓tf34, ↓tf35, ↓tf36, ↓tf37, ↓tf38, ↓tf39, ↓tf40, ↓tf41, ↓tf42, ↓tf43, ↓S_divisor_of, ok_int, eqD_int]
      simpa [hb] using k
theorem int_bd {i : Int} (h : Od (.int i)) : i.natAbs ≤ 1000000000 := by
  have := h.m
  simpa [mi] using this
theorem ratio_eq {a : Int} {b : Nat} (h : b ≠ 0) : eqD (ofQ (mkRat a b)) (.tup [.int a, .int b]) = decide (((a.natAbs.gcd b : Nat) : Int) = 1) := by
  have e := mk_parts (n := a) h
  have g0 := gcd_pos (n := a) h
  have e1 : eqD (ofQ (mkRat a b)) (.tup [.int a, .int b]) = (decide ((mkRat a b).num = a) && decide ((((mkRat a b).den : Nat) : Int) = (b : Nat))) := by
    unfold ofQ eqD
    simp [D.py, pyAll, PyData.eqv, PyData.eqvAll]
    rfl
  rw [e1, e.1, e.2, Bool.eq_iff_iff]
  simp only [Bool.and_eq_true, decide_eq_true_eq]
  constructor
  · rintro ⟨_, h2⟩
    have h3 : b / a.natAbs.gcd b = b := by omega
    have : a.natAbs.gcd b = 1 := by
      rcases Nat.lt_or_ge 1 (a.natAbs.gcd b) with z | z
      · have := Nat.div_lt_self (Nat.pos_of_ne_zero h) z
        omega
      · omega
    omega
  · intro h1
    rw [h1]
    have : a.natAbs.gcd b = 1 := by omega
    rw [this]
    simp
theorem p__law_is_fraction : ∀ ds w K E, S__law_is_fraction ds w K E → ds.length = 1 ∧ wSs (TT.at 22) b__law_is_fraction (startS 1 ds) w { nx := fun _ w' => K .non 2 w', rt := K } E := by
  rintro ds w K E ⟨d, rfl, hv, k⟩
  refine ⟨rfl, ?_⟩
  show wSs _ b__law_is_fraction [some (d, 0)] _ _ _
  cases d with
  | tup xs =>
    have hx := (od_items hv).2
    match xs, hx with
    | [], _ => simp (maxSteps := 2000000) [↓wSs, ↓wS, ↓wE, ↓wEs, ↓wAnd, ↓wOr, ↓wO, ↓wC, ↓wI, ↓slot, ↓asI, ↓asB, ↓asS, ↓asL, ↓items, ↓itemsL, ↓cop, ↓bop, ↓prim, at0, at1, at2, ↓tsS, ↓subS, ↓Ev.putIn, ↓sto, ↓dg, ↓fvE, ↓fvEs, ↓fvO, ↓fvI, ↓frp, ↓D.pure, ↓pureAll, ↓bindT, ↓tgl, ↓wipeS, ↓isTy, ↓D.eqOk, ↓D.isStr, ↓D.flat, ↓at_fn, ↓at_kw, ↓at_cs, b__law_is_fraction, ok_int, eqD_int]; exact k
    | [x], _ => simp (maxSteps := 2000000) [↓wSs, ↓wS, ↓wE, ↓wEs, ↓wAnd, ↓wOr, ↓wO, ↓wC, ↓wI, ↓slot, ↓asI, ↓asB, ↓asS, ↓asL, ↓items, ↓itemsL, ↓cop, ↓bop, ↓prim, at0, at1, at2, ↓tsS, ↓subS, ↓Ev.putIn, ↓sto, ↓dg, ↓fvE, ↓fvEs, ↓fvO, ↓fvI, ↓frp, ↓D.pure, ↓pureAll, ↓bindT, ↓tgl, ↓wipeS, ↓isTy, ↓D.eqOk, ↓D.isStr, ↓D.flat, ↓at_fn, ↓at_kw, ↓at_cs, b__law_is_fraction, ok_int, eqD_int]; cases x <;> exact k
    | x :: y :: z :: r, _ =>
      have h' : ¬ ((r.length : Int) + 1 + 1 + 1 = 2) := by omega
      simp (maxSteps := 2000000) [↓wSs, ↓wS, ↓wE, ↓wEs, ↓wAnd, ↓wOr, ↓wO, ↓wC, ↓wI, ↓slot, ↓asI, ↓asB, ↓asS, ↓asL, ↓items, ↓itemsL, ↓cop, ↓bop, ↓prim, at0, at1, at2, ↓tsS, ↓subS, ↓Ev.putIn, ↓sto, ↓dg, ↓fvE, ↓fvEs, ↓fvO, ↓fvI, ↓frp, ↓D.pure, ↓pureAll, ↓bindT, ↓tgl, ↓wipeS, ↓isTy, ↓D.eqOk, ↓D.isStr, ↓D.flat, ↓at_fn, ↓at_kw, ↓at_cs, b__law_is_fraction, ok_int, eqD_int, h']
      have : isQ (.tup (x :: y :: z :: r)) = false := by cases x <;> cases y <;> rfl
      rw [this] at k
      exact k
    | [x, y], hx =>
      have h1 := hx x (by simp)
      have h2 := hx y (by simp)
      simp (maxSteps := 2000000) [↓wSs, ↓wS, ↓wE, ↓wEs, ↓wAnd, ↓wOr, ↓wO, ↓wC, ↓wI, ↓slot, ↓asI, ↓asB, ↓asS, ↓asL, ↓items, ↓itemsL, ↓cop, ↓bop, ↓prim, at0, at1, at2, ↓tsS, ↓subS, ↓Ev.putIn, ↓sto, ↓dg, ↓fvE, ↓fvEs, ↓fvO, ↓fvI, ↓frp, ↓D.pure, ↓pureAll, ↓bindT, ↓tgl, ↓wipeS, ↓isTy, ↓D.eqOk, ↓D.isStr, ↓D.flat, ↓at_fn, ↓at_kw, ↓at_cs, b__law_is_fraction, ok_int, eqD_int, ↓tf0, ↓tf1, ↓tf2, ↓tf3, ↓tf4, ↓tf5, ↓tf6, ↓tf7, ↓tf8, ↓tf9, ↓tf10, ↓tf11, ↓tf12, ↓tf13, ↓tf14, ↓tf15, ↓tf16, ↓tf17, ↓tf18, ↓tf19, ↓tf20, ↓tf21, ↓tf22, ↓tf23, ↓tf24, ↓tf25, ↓tf26, ↓tf27, ↓tf28, ↓tf29, ↓tf30, ↓tf31, ↓tf32, ↓tf33, ↓tf34, ↓tf35, ↓tf36, ↓tf37, ↓tf38, ↓tf39, ↓tf40, ↓tf41, ↓tf42, ↓tf43, ↓S__law_is_whole, ↓S_is_whole, h1, h2]
      cases wx : isW x with
      | false =>
        rw [isQ_W (.inl wx)] at k
        rw [if_neg (by simp)]
        exact k
      | true =>
        cases wy : isW y with
        | false =>
          rw [isQ_W (.inr wy)] at k
          rw [if_pos rfl, if_neg (by simp)]
          exact k
        | true =>
          obtain ⟨a, rfl⟩ := isW_int wx
          obtain ⟨b, rfl⟩ := isW_int wy
          rw [if_pos rfl, if_pos rfl]
          simp only [isQ] at k
          by_cases hb : 0 < b
          · obtain ⟨m, rfl⟩ := nat_of (Int.le_of_lt hb)
            have m0 : m ≠ 0 := by omega
            have bb := int_bd h2
            rw [Int.natAbs_natCast] at bb k
            have re := ratio_eq (a := a) m0
            simp (maxSteps := 2000000) [↓wSs, ↓wS, ↓wE, ↓wEs, ↓wAnd, ↓wOr, ↓wO, ↓wC, ↓wI, ↓slot, ↓asI, ↓asB, ↓asS, ↓asL, ↓items, ↓itemsL, ↓cop, ↓bop, ↓prim, at0, at1, at2, ↓tsS, ↓subS, ↓Ev.putIn, ↓sto, ↓dg, ↓fvE, ↓fvEs, ↓fvO, ↓fvI, ↓frp, ↓D.pure, ↓pureAll, ↓bindT, ↓tgl, ↓wipeS, ↓isTy, ↓D.eqOk, ↓D.isStr, ↓D.flat, ↓at_fn, ↓at_kw, ↓at_cs, b__law_is_fraction_1, hb, ↓tf0, ↓tf1, ↓tf2, ↓tf3, ↓tf4, ↓tf5, ↓tf6, ↓tf7, ↓tf8, ↓tf9, ↓tf10, ↓tf11, ↓tf12, ↓tf13, ↓tf14, ↓tf15, ↓tf16, ↓tf17, ↓tf18, ↓tf19, ↓tf20, ↓tf21, ↓tf22, ↓tf23, ↓tf24, ↓tf25, ↓tf26, ↓tf27, ↓tf28, ↓tf29, ↓tf30, ↓tf31, ↓tf32, ↓tf33, ↓tf34, ↓tf35, ↓tf36, ↓tf37, ↓tf38, ↓tf39, ↓tf40, ↓tf41, ↓tf42, ↓tf43, ↓S__law_ratio]
            have dq : ∀ q : Rat, (ofQ q).dat = true ∧ (ofQ q).dep ≤ 60 := fun q => by unfold ofQ; simp [D.dat, datAll, D.dep, depAll]
            have hb2 : 0 < m := by omega
            rw [if_pos hb2]
            have mb : m < 2 ^ 4000 := Nat.lt_of_le_of_lt bb (Nat.lt_of_lt_of_le (by decide : 1000000000 < 2 ^ 30) (Nat.pow_le_pow_right (by decide) (by decide)))
            refine ⟨a, m, ⟨rfl, rfl⟩, m0, mb, .inl ⟨dq _, by simp [D.dat, datAll, D.dep, depAll]⟩, ?_⟩
            rw [re]
            simpa [hb2] using k
          · simp (maxSteps := 2000000) [↓wSs, ↓wS, ↓wE, ↓wEs, ↓wAnd, ↓wOr, ↓wO, ↓wC, ↓wI, ↓slot, ↓asI, ↓asB, ↓asS, ↓asL, ↓items, ↓itemsL, ↓cop, ↓bop, ↓prim, at0, at1, at2, ↓tsS, ↓subS, ↓Ev.putIn, ↓sto, ↓dg, ↓fvE, ↓fvEs, ↓fvO, ↓fvI, ↓frp, ↓D.pure, ↓pureAll, ↓bindT, ↓tgl, ↓wipeS, ↓isTy, ↓D.eqOk, ↓D.isStr, ↓D.flat, ↓at_fn, ↓at_kw, ↓at_cs, b__law_is_fraction_1, hb, ↓tf0, ↓tf1, ↓tf2, ↓tf3, ↓tf4, ↓tf5, ↓tf6, ↓tf7, ↓tf8, ↓tf9, ↓tf10, ↓tf11, ↓tf12, ↓tf13, ↓tf14, ↓tf15, ↓tf16, ↓tf17, ↓tf18, ↓tf19, ↓tf20, ↓tf21, ↓tf22, ↓tf23, ↓tf24, ↓tf25, ↓tf26, ↓tf27, ↓tf28, ↓tf29, ↓tf30, ↓tf31, ↓tf32, ↓tf33, ↓tf34, ↓tf35, ↓tf36, ↓tf37, ↓tf38, ↓tf39, ↓tf40, ↓tf41, ↓tf42, ↓tf43, ↓S__law_ratio, ok_int, eqD_int]
            simpa [hb] using k
  | _ => first | (exact absurd hv.v Bool.false_ne_true) | (simp (maxSteps := 2000000) [↓wSs, ↓wS, ↓wE, ↓wEs, ↓wAnd, ↓wOr, ↓wO, ↓wC, ↓wI, ↓slot, ↓asI, ↓asB, ↓asS, ↓asL, ↓items, ↓itemsL, ↓cop, ↓bop, ↓prim, at0, at1, at2, ↓tsS, ↓subS, ↓Ev.putIn, ↓sto, ↓dg, ↓fvE, ↓fvEs, ↓fvO, ↓fvI, ↓frp, ↓D.pure, ↓pureAll, ↓bindT, ↓tgl, ↓wipeS, ↓isTy, ↓D.eqOk, ↓D.isStr, ↓D.flat, ↓at_fn, ↓at_kw, ↓at_cs, b__law_is_fraction]; exact k)
theorem last_q {xs : List D} (he : xs ≠ []) (h : xs.all isQ = true) : ∃ a b : Int, xs.getLast? = some (.tup [.int a, .int b]) := by
  have hl := List.getLast?_eq_some_getLast he
  have := List.all_eq_true.mp h _ (List.getLast_mem he)
  rw [hl]
  generalize xs.getLast he = q at this
  unfold isQ at this
  split at this
  · exact ⟨_, _, rfl⟩
  · cases this
theorem turns_sel {F : D → List D → Nat → Wl → KA → Prop} {k : KA} {w : Wl} {p : D → Bool} {xs : List D} (hn : xs.length ≤ 1000000)
    (hs : ∀ (x : D) (acc : List D) (fr : Nat) (N : KA), x ∈ xs → acc.length < 1000000 → (if p x = true then ∀ q, N (acc ++ [x]) q w else N acc fr w) → F x acc fr w N) (hd : ∀ fr, k (xs.filter p) fr w) : turns F xs [] 2 w k := by
  refine turns_inv (fun i acc fr w' => acc = (xs.take i).filter p ∧ w' = w ∧ i ≤ xs.length) (j := 0) ⟨by simp, rfl, Nat.zero_le _⟩ ?_ ?_
  · rintro i x acc fr w' N hx ⟨rfl, rfl, hi⟩ hN
    have hl := (List.getElem?_eq_some_iff.mp hx).1
    simp only [Nat.zero_add] at *
    have e : (xs.take (i + 1)).filter p = (xs.take i).filter p ++ (if p x = true then [x] else []) := by
      rw [List.take_succ, hx, List.filter_append]
      by_cases q : p x = true <;> simp [q]
    have l := List.length_filter_le p (xs.take i)
    rw [List.length_take] at l
    refine hs x _ _ N (List.mem_of_getElem? hx) (by omega) ?_
    by_cases q : p x = true
    · rw [if_pos q]
      rw [if_pos q] at e
      exact fun fr' => hN _ _ _ ⟨e.symm, rfl, hl⟩
    · rw [if_neg q]
      rw [if_neg q, List.append_nil] at e
      exact hN _ _ _ ⟨e.symm, rfl, hl⟩
  · rintro acc fr w' ⟨rfl, rfl, _⟩
    simp only [Nat.zero_add, List.take_length]
    exact hd fr
theorem filter_no {p : D → Bool} (xs : List D) : ((xs.filter fun d => !p d) = []) = (xs.all p = true) := by
  apply propext
  rw [List.filter_eq_nil_iff, List.all_eq_true]
  constructor
  · intro h d hd
    have := h d hd
    simpa using this
  · intro h d hd
    simp [h d hd]
theorem filter_emp {p : D → Bool} (xs : List D) : (xs.filter fun d => !p d).isEmpty = xs.all p := by
  rw [Bool.eq_iff_iff, List.isEmpty_iff, filter_no]
theorem p_is_poly : ∀ ds w K E, S_is_poly ds w K E → ds.length = 1 ∧ wSs (TT.at 30) b_is_poly (startS 2 ds) w { nx := fun _ w' => K .non 2 w', rt := K } E := by
  rintro ds w K E ⟨d, rfl, hv, k⟩
  refine ⟨rfl, ?_⟩
  show wSs _ b_is_poly [some (d, 0), none] _ _ _
  cases d with
  | tup xs =>
    obtain ⟨hl, hx⟩ := od_items hv
    simp (maxSteps := 2000000) [↓wSs, ↓wS, ↓wE, ↓wEs, ↓wAnd, ↓wOr, ↓wO, ↓wC, ↓wI, ↓slot, ↓asI, ↓asB, ↓asS, ↓asL, ↓items, ↓itemsL, ↓cop, ↓bop, ↓prim, at0, at1, at2, ↓tsS, ↓subS, ↓Ev.putIn, ↓sto, ↓dg, ↓fvE, ↓fvEs, ↓fvO, ↓fvI, ↓frp, ↓D.pure, ↓pureAll, ↓bindT, ↓tgl, ↓wipeS, ↓isTy, ↓D.eqOk, ↓D.isStr, ↓D.flat, ↓at_fn, ↓at_kw, ↓at_cs, b_is_poly]
    refine turns_map (g := fun d => .bl (isQ d)) (by omega) (fun i x acc N hxi hacc hN => ?_) ?_
    · simp (maxSteps := 2000000) [↓wSs, ↓wS, ↓wE, ↓wEs, ↓wAnd, ↓wOr, ↓wO, ↓wC, ↓wI, ↓slot, ↓asI, ↓asB, ↓asS, ↓asL, ↓items, ↓itemsL, ↓cop, ↓bop, ↓prim, at0, at1, at2, ↓tsS, ↓subS, ↓Ev.putIn, ↓sto, ↓dg, ↓fvE, ↓fvEs, ↓fvO, ↓fvI, ↓frp, ↓D.pure, ↓pureAll, ↓bindT, ↓tgl, ↓wipeS, ↓isTy, ↓D.eqOk, ↓D.isStr, ↓D.flat, ↓at_fn, ↓at_kw, ↓at_cs, e_is_poly_2, ↓tf0, ↓tf1, ↓tf2, ↓tf3, ↓tf4, ↓tf5, ↓tf6, ↓tf7, ↓tf8, ↓tf9, ↓tf10, ↓tf11, ↓tf12, ↓tf13, ↓tf14, ↓tf15, ↓tf16, ↓tf17, ↓tf18, ↓tf19, ↓tf20, ↓tf21, ↓tf22, ↓tf23, ↓tf24, ↓tf25, ↓tf26, ↓tf27, ↓tf28, ↓tf29, ↓tf30, ↓tf31, ↓tf32, ↓tf33, ↓tf34, ↓tf35, ↓tf36, ↓tf37, ↓tf38, ↓tf39, ↓tf40, ↓tf41, ↓tf42, ↓tf43, ↓S_is_ratio]
      exact ⟨hx x (List.mem_of_getElem? hxi), hacc, hN⟩
    · refine ⟨_, bls_map xs, ?_⟩
      cases h : xs.all isQ with
      | false =>
        rw [if_pos (by rw [fm_eq]; exact h)]
        simpa [isP, h] using k
      | true =>
        rw [if_neg (by rw [fm_eq, h]; simp)]
        simp (maxSteps := 2000000) [↓wSs, ↓wS, ↓wE, ↓wEs, ↓wAnd, ↓wOr, ↓wO, ↓wC, ↓wI, ↓slot, ↓asI, ↓asB, ↓asS, ↓asL, ↓items, ↓itemsL, ↓cop, ↓bop, ↓prim, at0, at1, at2, ↓tsS, ↓subS, ↓Ev.putIn, ↓sto, ↓dg, ↓fvE, ↓fvEs, ↓fvO, ↓fvI, ↓frp, ↓D.pure, ↓pureAll, ↓bindT, ↓tgl, ↓wipeS, ↓isTy, ↓D.eqOk, ↓D.isStr, ↓D.flat, ↓at_fn, ↓at_kw, ↓at_cs, b_is_poly_1, nil_t, eqn_t]
        by_cases he : xs = []
        · subst he
          rw [if_pos rfl]
          exact k
        · obtain ⟨a, b, hq⟩ := last_q he h
          have hat : atI xs (-1) = some (.tup [.int a, .int b]) := atI_neg1 hq
          have h0 : atI [D.int a, D.int b] 0 = some (.int a) := rfl
          have hp : isP (.tup xs) = !decide (a = 0) := by simp [isP, h, lastOk, hq]
          rw [if_neg he, hat]
          simp only [h0]
          rw [eqD_int, ← hp]
          exact ⟨.inl ⟨ok_int, ok_int⟩, k⟩
  | _ => first | (exact absurd hv.v Bool.false_ne_true) | (simp (maxSteps := 2000000) [↓wSs, ↓wS, ↓wE, ↓wEs, ↓wAnd, ↓wOr, ↓wO, ↓wC, ↓wI, ↓slot, ↓asI, ↓asB, ↓asS, ↓asL, ↓items, ↓itemsL, ↓cop, ↓bop, ↓prim, at0, at1, at2, ↓tsS, ↓subS, ↓Ev.putIn, ↓sto, ↓dg, ↓fvE, ↓fvEs, ↓fvO, ↓fvI, ↓frp, ↓D.pure, ↓pureAll, ↓bindT, ↓tgl, ↓wipeS, ↓isTy, ↓D.eqOk, ↓D.isStr, ↓D.flat, ↓at_fn, ↓at_kw, ↓at_cs, b_is_poly]; exact k)
theorem atI_len1 {α : Type} {xs : List α} {x : α} (h : xs.getLast? = some x) : atI xs ((xs.length : Int) - 1) = some x := by
  have h0 : xs ≠ [] := fun e => by rw [e] at h; cases h
  have h1 := List.length_pos_iff.mpr h0
  have : ((xs.length : Int) - 1) = ((xs.length - 1 : Nat) : Int) := by omega
  rw [this]
  refine atI_nat ?_
  rw [← List.getLast?_eq_getElem?]
  exact h
theorem p__law_is_polynomial : ∀ ds w K E, S__law_is_polynomial ds w K E → ds.length = 1 ∧ wSs (TT.at 23) b__law_is_polynomial (startS 2 ds) w { nx := fun _ w' => K .non 2 w', rt := K } E := by
  rintro ds w K E ⟨d, rfl, hv, k⟩
  refine ⟨rfl, ?_⟩
  show wSs _ b__law_is_polynomial [some (d, 0), none] _ _ _
  cases d with
  | tup xs =>
    obtain ⟨hl, hx⟩ := od_items hv
    simp (maxSteps := 2000000) [↓wSs, ↓wS, ↓wE, ↓wEs, ↓wAnd, ↓wOr, ↓wO, ↓wC, ↓wI, ↓slot, ↓asI, ↓asB, ↓asS, ↓asL, ↓items, ↓itemsL, ↓cop, ↓bop, ↓prim, at0, at1, at2, ↓tsS, ↓subS, ↓Ev.putIn, ↓sto, ↓dg, ↓fvE, ↓fvEs, ↓fvO, ↓fvI, ↓frp, ↓D.pure, ↓pureAll, ↓bindT, ↓tgl, ↓wipeS, ↓isTy, ↓D.eqOk, ↓D.isStr, ↓D.flat, ↓at_fn, ↓at_kw, ↓at_cs, b__law_is_polynomial, nil_l, eqn_l]
    refine turns_sel (p := fun d => !isQ d) (by omega) (fun x acc fr N hxi hacc hN => ?_) fun fr => ?_
    · simp (maxSteps := 2000000) [↓wSs, ↓wS, ↓wE, ↓wEs, ↓wAnd, ↓wOr, ↓wO, ↓wC, ↓wI, ↓slot, ↓asI, ↓asB, ↓asS, ↓asL, ↓items, ↓itemsL, ↓cop, ↓bop, ↓prim, at0, at1, at2, ↓tsS, ↓subS, ↓Ev.putIn, ↓sto, ↓dg, ↓fvE, ↓fvEs, ↓fvO, ↓fvI, ↓frp, ↓D.pure, ↓pureAll, ↓bindT, ↓tgl, ↓wipeS, ↓isTy, ↓D.eqOk, ↓D.isStr, ↓D.flat, ↓at_fn, ↓at_kw, ↓at_cs, e__law_is_polynomial_2, ↓tf0, ↓tf1, ↓tf2, ↓tf3, ↓tf4, ↓tf5, ↓tf6, ↓tf7, ↓tf8, ↓tf9, ↓tf10, ↓tf11, ↓tf12, ↓tf13, ↓tf14, ↓tf15, ↓tf16, ↓tf17, ↓tf18, ↓tf19, ↓tf20, ↓tf21, ↓tf22, ↓tf23, ↓tf24, ↓tf25, ↓tf26, ↓tf27, ↓tf28, ↓tf29, ↓tf30, ↓tf31, ↓tf32, ↓tf33, ↓tf34, ↓tf35, ↓tf36, ↓tf37, ↓tf38, ↓tf39, ↓tf40, ↓tf41, ↓tf42, ↓tf43, ↓S__law_is_fraction, ↓S_is_ratio]
      refine ⟨hx x hxi, ?_⟩
      cases q : isQ x with
      | true => simpa [q] using hN
      | false =>
        simp [q] at hN
        simpa using ⟨hacc, hN _⟩
    · cases h : xs.all isQ with
      | false =>
        rw [if_neg (by rw [filter_no, h]; simp)]
        simpa [isP, h] using k
      | true =>
        rw [if_pos (by rw [filter_no]; exact h)]
        simp (maxSteps := 2000000) [↓wSs, ↓wS, ↓wE, ↓wEs, ↓wAnd, ↓wOr, ↓wO, ↓wC, ↓wI, ↓slot, ↓asI, ↓asB, ↓asS, ↓asL, ↓items, ↓itemsL, ↓cop, ↓bop, ↓prim, at0, at1, at2, ↓tsS, ↓subS, ↓Ev.putIn, ↓sto, ↓dg, ↓fvE, ↓fvEs, ↓fvO, ↓fvI, ↓frp, ↓D.pure, ↓pureAll, ↓bindT, ↓tgl, ↓wipeS, ↓isTy, ↓D.eqOk, ↓D.isStr, ↓D.flat, ↓at_fn, ↓at_kw, ↓at_cs, b__law_is_polynomial_1, nil_t, eqn_t]
        by_cases he : xs = []
        · subst he
          rw [if_pos rfl]
          exact k
        · obtain ⟨a, b, hq⟩ := last_q he h
          have hat : atI xs ((xs.length : Int) - 1) = some (.tup [.int a, .int b]) := atI_len1 hq
          have h0 : atI [D.int a, D.int b] 0 = some (.int a) := rfl
          have hp : isP (.tup xs) = !decide (a = 0) := by simp [isP, h, lastOk, hq]
          rw [if_neg he, hat]
          simp only [h0]
          rw [eqD_int, ← hp]
          exact ⟨.inl ⟨ok_int, ok_int⟩, k⟩
  | _ => first | (exact absurd hv.v Bool.false_ne_true) | (simp (maxSteps := 2000000) [↓wSs, ↓wS, ↓wE, ↓wEs, ↓wAnd, ↓wOr, ↓wO, ↓wC, ↓wI, ↓slot, ↓asI, ↓asB, ↓asS, ↓asL, ↓items, ↓itemsL, ↓cop, ↓bop, ↓prim, at0, at1, at2, ↓tsS, ↓subS, ↓Ev.putIn, ↓sto, ↓dg, ↓fvE, ↓fvEs, ↓fvO, ↓fvI, ↓frp, ↓D.pure, ↓pureAll, ↓bindT, ↓tgl, ↓wipeS, ↓isTy, ↓D.eqOk, ↓D.isStr, ↓D.flat, ↓at_fn, ↓at_kw, ↓at_cs, b__law_is_polynomial]; exact k)
end K02

set_option Elab.async false
set_option linter.all false
set_option maxRecDepth 100000
set_option maxHeartbeats 8000000
namespace K02
open PySem PySem.Spec PyProof.Rows L2 Ev

/-! ### odd values, bent ones -/
theorem ob_in {t p M s : Nat} (l : List D) (h : (l.all fun d => vl d && d.rdt && decide (td d ≤ t) && decide (d.dep ≤ p) && decide (mi d ≤ M) && decide (d.sgn ≤ s)) = true) : ∀ x ∈ l, Ob t p M s x := by
  intro x hx
  have q := List.all_eq_true.mp h x hx
  simp only [Bool.and_eq_true, decide_eq_true_eq] at q
  obtain ⟨⟨⟨⟨⟨q1, q2⟩, q3⟩, q4⟩, q5⟩, q6⟩ := q
  exact ⟨q1, q2, q3, q4, q5, q6⟩
theorem p__law_odd : ∀ ds w K E, S__law_odd ds w K E → ds.length = 1 ∧ wSs (TT.at 8) b__law_odd (startS 3 ds) w { nx := fun _ w' => K .non 2 w', rt := K } E := by
  rintro ds w K E ⟨rfl, hw, k⟩
  refine ⟨rfl, ?_⟩
  show wSs _ b__law_odd [some (.wel, 0), none, none] _ _ _
  have hw0 := hw
  obtain ⟨a, b, c, rfl⟩ := hw0
  simp (maxSteps := 2000000) [↓wSs, ↓wS, ↓wE, ↓wEs, ↓wAnd, ↓wOr, ↓wO, ↓wC, ↓wI, ↓slot, ↓asI, ↓asB, ↓asS, ↓asL, ↓items, ↓itemsL, ↓cop, ↓bop, ↓prim, at0, at1, at2, ↓tsS, ↓subS, ↓Ev.putIn, ↓sto, ↓dg, ↓fvE, ↓fvEs, ↓fvO, ↓fvI, ↓frp, ↓D.pure, ↓pureAll, ↓bindT, ↓tgl, ↓wipeS, ↓isTy, ↓D.eqOk, ↓D.isStr, ↓D.flat, ↓at_fn, ↓at_kw, ↓at_cs, b__law_odd, ↓tf0, ↓tf1, ↓tf2, ↓tf3, ↓tf4, ↓tf5, ↓tf6, ↓tf7, ↓tf8, ↓tf9, ↓tf10, ↓tf11, ↓tf12, ↓tf13, ↓tf14, ↓tf15, ↓tf16, ↓tf17, ↓tf18, ↓tf19, ↓tf20, ↓tf21, ↓tf22, ↓tf23, ↓tf24, ↓tf25, ↓tf26, ↓tf27, ↓tf28, ↓tf29, ↓tf30, ↓tf31, ↓tf32, ↓tf33, ↓tf34, ↓tf35, ↓tf36, ↓tf37, ↓tf38, ↓tf39, ↓tf40, ↓tf41, ↓tf42, ↓tf43, ↓S__law_pick, ↓S__law_draw]
  refine ⟨hw, fun r w' r0 r1 hw' => ⟨.inl ⟨ok_int, ok_int⟩, ?_⟩⟩
  split
  · exact ⟨hw', fun x hx w2 hw2 => k x _ w2 (ob_in _ (by decide +kernel) x hx) hw2⟩
  · exact ⟨hw', fun x hx w2 hw2 => k x _ w2 (ob_in _ (by decide +kernel) x hx) hw2⟩
theorem str_ob {i : Int} (h : i.natAbs < 10000000000) : Ob 0 0 0 130 (.str (Str.ofString (toString i))) := by
  have l := int_text_length_le10 (a := i) (k := 10) (by decide) h
  refine ⟨rfl, ?_, Nat.le_refl _, Nat.le_refl _, Nat.le_refl _, ?_⟩
  · show PyData.strOk _ = true
    unfold PyData.strOk
    rw [Str.ofString_eq_toList]
    simp only [List.all_toArray, List.all_map, List.all_eq_true]
    intro c _
    have := c.valid
    simp only [Function.comp, decide_eq_true_eq]
    show c.val.toNat < 1114112
    rcases this with h | h
    · exact Nat.lt_trans h (by decide)
    · exact h.2
  · simp only [D.sgn]
    rw [PySem.ofString_length]
    omega
theorem sgn_int {i : Int} (h : i.natAbs < 10000000000) : (D.int i).sgn ≤ 40 := by
  have : i.natAbs.log2 < 34 := by
    by_cases h0 : i.natAbs = 0
    · rw [h0]; decide
    · exact (Nat.log2_lt h0).mpr (by omega)
  simp only [D.sgn]
  rw [if_pos (by omega)]
  omega
theorem int_ob {i : Int} {M : Nat} (h : i.natAbs ≤ M) (l : M < 10000000000) : Ob 0 0 M 40 (.int i) := ⟨rfl, rfl, Nat.le_refl _, Nat.le_refl _, by simpa [mi] using h, sgn_int (by omega)⟩
def bentB5 (g : Nat) : Sms := (.cons (.iff (.cmp .lt (.var 3) (.int 5)) (.cons (.ret (.bin .add (.bin .add (.slc (.var 1) .no (.ex (.var 2))) (.tup (.cons (.call "_law_bent" g (.cons (.var 0) (.cons (.idx (.var 1) (.var 2)) .nil))) .nil))) (.slc (.var 1) (.ex (.bin .add (.var 2) (.int 1))) .no))) .nil) .nil) b__law_bent_L1_4)
def bentC (b5 : Sms) : Sms := (.cons (.iff (.ands (.isi (.var 1) .tuple) (.cons (.cmp .ne (.var 1) (.tup .nil)) .nil)) (.cons (.par 2 3 (.call "_law_draw" 0 (.cons (.var 0) (.cons (.prim .len (.cons (.var 1) .nil)) .nil))) (.call "_law_draw" 0 (.cons (.var 0) (.cons (.int 8) .nil)))) b5) .nil) b__law_bent_L1_2)
theorem split_at {xs : List D} {a : Nat} (h : a < xs.length) : xs = xs.take a ++ xs[a] :: xs.drop (a + 1) := by
  rw [← List.drop_eq_getElem_cons h, List.take_append_drop]
/-- no tuple: an int, or an odd value -/
theorem bent_2 (j : Nat) (d : D) (t p M s : Nat) (w : Wl) (K : KE) (E : XQ) (hd : Ob t p M s d) (h7 : 7 ≤ M) (hM : M < 1000000000) (hw : Wk w) (k : ∀ d' fr w', Ob (t + 4) (p + 5) (M + 1) (2 * s + 500) d' → Wk w' → K d' fr w') :
    wSs (TT.at j) b__law_bent_L1_2 [some (.wel, 0), some (d, 0), none, none] w { nx := fun _ w' => K .non 2 w', rt := K } E := by
  have odd : ∀ w', Wk w' → wSs (TT.at j) b__law_bent_L1_1 [some (.wel, 0), some (d, 0), none, none] w' { nx := fun _ w' => K .non 2 w', rt := K } E := fun w' hw' => by
    simp (maxSteps := 2000000) [↓wSs, ↓wS, ↓wE, ↓wEs, ↓wAnd, ↓wOr, ↓wO, ↓wC, ↓wI, ↓slot, ↓asI, ↓asB, ↓asS, ↓asL, ↓items, ↓itemsL, ↓cop, ↓bop, ↓prim, at0, at1, at2, ↓tsS, ↓subS, ↓Ev.putIn, ↓sto, ↓dg, ↓fvE, ↓fvEs, ↓fvO, ↓fvI, ↓frp, ↓D.pure, ↓pureAll, ↓bindT, ↓tgl, ↓wipeS, ↓isTy, ↓D.eqOk, ↓D.isStr, ↓D.flat, ↓at_fn, ↓at_kw, ↓at_cs, b__law_bent_L1_1, ↓tf0, ↓tf1, ↓tf2, ↓tf3, ↓tf4, ↓tf5, ↓tf6, ↓tf7, ↓tf8, ↓tf9, ↓tf10, ↓tf11, ↓tf12, ↓tf13, ↓tf14, ↓tf15, ↓tf16, ↓tf17, ↓tf18, ↓tf19, ↓tf20, ↓tf21, ↓tf22, ↓tf23, ↓tf24, ↓tf25, ↓tf26, ↓tf27, ↓tf28, ↓tf29, ↓tf30, ↓tf31, ↓tf32, ↓tf33, ↓tf34, ↓tf35, ↓tf36, ↓tf37, ↓tf38, ↓tf39, ↓tf40, ↓tf41, ↓tf42, ↓tf43, ↓S__law_odd]
    exact ⟨hw', fun d' fr w2 h h' => k _ _ _ (h.mono (by omega) (by omega) (by omega) (by omega)) h'⟩
  have hv := hd
  cases d with
  | int i =>
    have hi : i.natAbs ≤ M := by
      have := hd.m
      simpa [mi] using this
    simp (maxSteps := 2000000) [↓wSs, ↓wS, ↓wE, ↓wEs, ↓wAnd, ↓wOr, ↓wO, ↓wC, ↓wI, ↓slot, ↓asI, ↓asB, ↓asS, ↓asL, ↓items, ↓itemsL, ↓cop, ↓bop, ↓prim, at0, at1, at2, ↓tsS, ↓subS, ↓Ev.putIn, ↓sto, ↓dg, ↓fvE, ↓fvEs, ↓fvO, ↓fvI, ↓frp, ↓D.pure, ↓pureAll, ↓bindT, ↓tgl, ↓wipeS, ↓isTy, ↓D.eqOk, ↓D.isStr, ↓D.flat, ↓at_fn, ↓at_kw, ↓at_cs, b__law_bent_L1_2, ↓tf0, ↓tf1, ↓tf2, ↓tf3, ↓tf4, ↓tf5, ↓tf6, ↓tf7, ↓tf8, ↓tf9, ↓tf10, ↓tf11, ↓tf12, ↓tf13, ↓tf14, ↓tf15, ↓tf16, ↓tf17, ↓tf18, ↓tf19, ↓tf20, ↓tf21, ↓tf22, ↓tf23, ↓tf24, ↓tf25, ↓tf26, ↓tf27, ↓tf28, ↓tf29, ↓tf30, ↓tf31, ↓tf32, ↓tf33, ↓tf34, ↓tf35, ↓tf36, ↓tf37, ↓tf38, ↓tf39, ↓tf40, ↓tf41, ↓tf42, ↓tf43, ↓S__law_draw, ↓S__law_pick]
    refine ⟨hw, fun r w' r0 r1 hw' => ⟨.inl ⟨ok_int, ok_int⟩, ?_⟩⟩
    have up : ∀ x, Ob 1 1 (M + 1) 200 x → Ob (t + 4) (p + 5) (M + 1) (2 * s + 500) x := fun x h => h.mono (by omega) (by omega) (by omega) (by omega)
    have ti := (str_ob (i := i) (by omega)).mono (t' := 1) (p' := 1) (M' := M + 1) (s' := 200) (by omega) (by omega) (by omega) (by omega)
    have io : ∀ z : Int, z.natAbs ≤ M + 1 → Ob 1 1 (M + 1) 200 (.int z) := fun z h => (int_ob h (by omega)).mono (by omega) (by omega) (by omega) (by omega)
    have lg : i.natAbs.log2 < 1900 := by
      by_cases z : i.natAbs = 0
      · rw [z]; decide
      · have : i.natAbs.log2 < 34 := (Nat.log2_lt z).mpr (by omega)
        omega
    split
    · refine ⟨lg, .inl ⟨ok_int, ok_int⟩, hw', fun x hx w2 hw2 => k x _ w2 (up x ?_) hw2⟩
      simp only [Inn, List.mem_cons, List.not_mem_nil, or_false] at hx
      rcases hx with rfl | rfl | rfl | rfl | rfl | rfl | rfl | rfl
      · exact io _ (by omega)
      · exact io _ (by omega)
      · exact io _ (by omega)
      · exact ti
      · exact (ObA.cons (s := 0) (int_ob (M := M + 1) (by omega) (by omega)) ObA.nil).tup.mono (by omega) (by omega) (by omega) (by omega)
      · exact ⟨rfl, rfl, Nat.zero_le _, Nat.zero_le _, Nat.zero_le _, by simp [D.sgn]⟩
      · exact io _ (by omega)
      · exact ⟨rfl, rfl, Nat.zero_le _, Nat.zero_le _, Nat.zero_le _, by simp [D.sgn]⟩
    · exact odd w' hw'
  | _ => first | (exact absurd hv.v Bool.false_ne_true) | (simp (maxSteps := 2000000) [↓wSs, ↓wS, ↓wE, ↓wEs, ↓wAnd, ↓wOr, ↓wO, ↓wC, ↓wI, ↓slot, ↓asI, ↓asB, ↓asS, ↓asL, ↓items, ↓itemsL, ↓cop, ↓bop, ↓prim, at0, at1, at2, ↓tsS, ↓subS, ↓Ev.putIn, ↓sto, ↓dg, ↓fvE, ↓fvEs, ↓fvO, ↓fvI, ↓frp, ↓D.pure, ↓pureAll, ↓bindT, ↓tgl, ↓wipeS, ↓isTy, ↓D.eqOk, ↓D.isStr, ↓D.flat, ↓at_fn, ↓at_kw, ↓at_cs, b__law_bent_L1_2]; exact odd w hw)
theorem bent_t (j : Nat) (b5 : Sms) (xs : List D) (t p M s : Nat) (w : Wl) (K : KE) (E : XQ) (hd : Ob t p M s (.tup xs)) (h0 : xs ≠ []) (h7 : 7 ≤ M) (hM : M < 1000000000) (hs : s ≤ 1000000) (hw : Wk w)
    (h5 : ∀ (a : Nat) (r : Int) w', a < xs.length → 0 ≤ r → r < 8 → Wk w' → ∀ P : Po, P.rt = K → wSs (TT.at j) b5 [some (.wel, 0), some (.tup xs, 0), some (.int (a : Nat), 2), some (.int r, 2)] w' P E) :
    wSs (TT.at j) (bentC b5) [some (.wel, 0), some (.tup xs, 0), none, none] w { nx := fun _ w' => K .non 2 w', rt := K } E := by
  have l := sgn_len xs
  have l2 := hd.s
  simp only [D.sgn] at l2
  have lp := List.length_pos_iff.mpr h0
  simp (maxSteps := 2000000) [↓wSs, ↓wS, ↓wE, ↓wEs, ↓wAnd, ↓wOr, ↓wO, ↓wC, ↓wI, ↓slot, ↓asI, ↓asB, ↓asS, ↓asL, ↓items, ↓itemsL, ↓cop, ↓bop, ↓prim, at0, at1, at2, ↓tsS, ↓subS, ↓Ev.putIn, ↓sto, ↓dg, ↓fvE, ↓fvEs, ↓fvO, ↓fvI, ↓frp, ↓D.pure, ↓pureAll, ↓bindT, ↓tgl, ↓wipeS, ↓isTy, ↓D.eqOk, ↓D.isStr, ↓D.flat, ↓at_fn, ↓at_kw, ↓at_cs, bentC, nil_t, eqn_t, ↓tf0, ↓tf1, ↓tf2, ↓tf3, ↓tf4, ↓tf5, ↓tf6, ↓tf7, ↓tf8, ↓tf9, ↓tf10, ↓tf11, ↓tf12, ↓tf13, ↓tf14, ↓tf15, ↓tf16, ↓tf17, ↓tf18, ↓tf19, ↓tf20, ↓tf21, ↓tf22, ↓tf23, ↓tf24, ↓tf25, ↓tf26, ↓tf27, ↓tf28, ↓tf29, ↓tf30, ↓tf31, ↓tf32, ↓tf33, ↓tf34, ↓tf35, ↓tf36, ↓tf37, ↓tf38, ↓tf39, ↓tf40, ↓tf41, ↓tf42, ↓tf43, ↓S__law_draw, h0]
  refine ⟨lp, by omega, hw, fun r w1 r0 r1 hw1 => ⟨hw1, fun q w2 q0 q1 hw2 => ?_⟩⟩
  obtain ⟨a, rfl⟩ := nat_of r0
  exact h5 a q w2 (by omega) q0 q1 hw2 _ rfl
theorem bent_4 (j : Nat) (xs : List D) (a : Nat) (r : Int) (t p M s : Nat) (w : Wl) (K : KE) (E : XQ) (hd : Ob t p M s (.tup xs)) (ha : a < xs.length) (h7 : 7 ≤ M) (hs : s ≤ 1000000) (hw : Wk w) (k : ∀ d' fr w', Ob (t + 4) (p + 5) (M + 1) (2 * s + 500) d' → Wk w' → K d' fr w') (P : Po) (hP : P.rt = K) :
    wSs (TT.at j) b__law_bent_L1_4 [some (.wel, 0), some (.tup xs, 0), some (.int (a : Nat), 2), some (.int r, 2)] w P E := by
  subst hP
  have c1 := cutD_lo xs a
  have c2 : Ev.cutD xs (some (((a : Nat) : Int) + 1)) none = xs.drop (a + 1) := cutD_hi xs (a + 1)
  have c3 := cutD_hi xs a
  have c4 : Ev.cutD xs none (some (((a : Nat) : Int) + 1)) = xs.take (a + 1) := cutD_lo xs (a + 1)
  have l := sgn_len xs
  have l2 := hd.s
  simp only [D.sgn] at l2
  obtain ⟨t', p', s', rfl, rfl, rfl, hx⟩ := hd.untup
  have hx2 := hx
  rw [← List.take_append_drop a xs] at hx2
  obtain ⟨n1, n2, x1, x2, x3⟩ := hx2.unapp
  have hx3 := hx
  rw [← List.take_append_drop (a + 1) xs] at hx3
  obtain ⟨m1, m2, y1, y2, y3⟩ := hx3.unapp
  simp (maxSteps := 2000000) [↓wSs, ↓wS, ↓wE, ↓wEs, ↓wAnd, ↓wOr, ↓wO, ↓wC, ↓wI, ↓slot, ↓asI, ↓asB, ↓asS, ↓asL, ↓items, ↓itemsL, ↓cop, ↓bop, ↓prim, at0, at1, at2, ↓tsS, ↓subS, ↓Ev.putIn, ↓sto, ↓dg, ↓fvE, ↓fvEs, ↓fvO, ↓fvI, ↓frp, ↓D.pure, ↓pureAll, ↓bindT, ↓tgl, ↓wipeS, ↓isTy, ↓D.eqOk, ↓D.isStr, ↓D.flat, ↓at_fn, ↓at_kw, ↓at_cs, b__law_bent_L1_4, b__law_bent_L1_3, c1, c2, c3, c4, ok_int, eqD_int]
  split
  · exact k _ _ _ (hx.lst.mono (by omega) (by omega) (by omega) (by omega)) hw
  · split
    · exact ⟨by omega, k _ _ _ ((x1.app y2).tup.mono (by omega) (by omega) (by omega) (by omega)) hw⟩
    · exact ⟨by omega, k _ _ _ ((y1.app x2).tup.mono (by omega) (by omega) (by omega) (by omega)) hw⟩
theorem bent_5 (n g j : Nat) (hT : TT.fn g = S_bent n) (xs : List D) (a : Nat) (r : Int) (t p M s : Nat) (w : Wl) (K : KE) (E : XQ) (hd : Ob t p M s (.tup xs)) (ht : t < n + 1) (ha : a < xs.length) (h7 : 7 ≤ M) (hM : M < 1000000000) (hs : s ≤ 1000000) (hw : Wk w) (k : ∀ d' fr w', Ob (t + 4) (p + 5) (M + 1) (2 * s + 500) d' → Wk w' → K d' fr w') (P : Po) (hP : P.rt = K) :
    wSs (TT.at j) (bentB5 g) [some (.wel, 0), some (.tup xs, 0), some (.int (a : Nat), 2), some (.int r, 2)] w P E := by
  subst hP
  have c1 := cutD_lo xs a
  have c2 : Ev.cutD xs (some (((a : Nat) : Int) + 1)) none = xs.drop (a + 1) := cutD_hi xs (a + 1)
  have l := sgn_len xs
  have l2 := hd.s
  simp only [D.sgn] at l2
  have hat : atI xs ((a : Nat) : Int) = some xs[a] := atI_nat (List.getElem?_eq_getElem ha)
  have nxt := bent_4 j xs a r t p M s w P.rt E hd ha h7 hs hw k P rfl
  obtain ⟨t', p', s', rfl, rfl, rfl, hx⟩ := hd.untup
  have hx2 := hx
  rw [split_at ha] at hx2
  obtain ⟨n1, n2, x1, x2, x3⟩ := hx2.unapp
  obtain ⟨n3, n4, x4, x5, x6⟩ := x2.uncons
  by_cases r5 : r < 5
  · simp (maxSteps := 2000000) [↓wSs, ↓wS, ↓wE, ↓wEs, ↓wAnd, ↓wOr, ↓wO, ↓wC, ↓wI, ↓slot, ↓asI, ↓asB, ↓asS, ↓asL, ↓items, ↓itemsL, ↓cop, ↓bop, ↓prim, at0, at1, at2, ↓tsS, ↓subS, ↓Ev.putIn, ↓sto, ↓dg, ↓fvE, ↓fvEs, ↓fvO, ↓fvI, ↓frp, ↓D.pure, ↓pureAll, ↓bindT, ↓tgl, ↓wipeS, ↓isTy, ↓D.eqOk, ↓D.isStr, ↓D.flat, ↓at_fn, ↓at_kw, ↓at_cs, bentB5, c1, c2, hat, r5, hT, ↓S_bent]
    refine ⟨t', p', M, n3, x4, by omega, h7, hM, by omega, hw, fun d' w' hd' hw' => ?_⟩
    refine ⟨by omega, by omega, k _ _ _ ?_ hw'⟩
    have q1 := x1.mono (t' := t' + 4) (p' := p' + 5) (M' := M + 1) (by omega) (by omega) (by omega) (Nat.le_refl _)
    have q2 := x5.mono (t' := t' + 4) (p' := p' + 5) (M' := M + 1) (by omega) (by omega) (by omega) (Nat.le_refl _)
    exact (q1.app (ObA.cons hd' q2)).tup.mono (by omega) (by omega) (by omega) (by omega)
  · simp (maxSteps := 2000000) [↓wSs, ↓wS, ↓wE, ↓wEs, ↓wAnd, ↓wOr, ↓wO, ↓wC, ↓wI, ↓slot, ↓asI, ↓asB, ↓asS, ↓asL, ↓items, ↓itemsL, ↓cop, ↓bop, ↓prim, at0, at1, at2, ↓tsS, ↓subS, ↓Ev.putIn, ↓sto, ↓dg, ↓fvE, ↓fvEs, ↓fvO, ↓fvI, ↓frp, ↓D.pure, ↓pureAll, ↓bindT, ↓tgl, ↓wipeS, ↓isTy, ↓D.eqOk, ↓D.isStr, ↓D.flat, ↓at_fn, ↓at_kw, ↓at_cs, bentB5, r5]
    exact nxt
theorem p_bentB (n g j : Nat) (hT : TT.fn g = S_bent n) : ∀ ds w K E, S_bent (n + 1) ds w K E → ds.length = 2 ∧ wSs (TT.at j) (bentC (bentB5 g)) (startS 4 ds) w { nx := fun _ w' => K .non 2 w', rt := K } E := by
  rintro ds w K E ⟨d, t, p, M, s, rfl, hd, ht, h7, hM, hs, hw, k⟩
  refine ⟨rfl, ?_⟩
  show wSs _ _ [some (.wel, 0), some (d, 0), none, none] _ _ _
  have b2 := bent_2 j d t p M s w K E hd h7 hM hw k
  have hv := hd
  cases d with
  | tup xs =>
    by_cases he : xs = []
    · subst he
      simp (maxSteps := 2000000) [↓wSs, ↓wS, ↓wE, ↓wEs, ↓wAnd, ↓wOr, ↓wO, ↓wC, ↓wI, ↓slot, ↓asI, ↓asB, ↓asS, ↓asL, ↓items, ↓itemsL, ↓cop, ↓bop, ↓prim, at0, at1, at2, ↓tsS, ↓subS, ↓Ev.putIn, ↓sto, ↓dg, ↓fvE, ↓fvEs, ↓fvO, ↓fvI, ↓frp, ↓D.pure, ↓pureAll, ↓bindT, ↓tgl, ↓wipeS, ↓isTy, ↓D.eqOk, ↓D.isStr, ↓D.flat, ↓at_fn, ↓at_kw, ↓at_cs, bentC, nil_t, eqn_t]
      exact b2
    · exact bent_t j (bentB5 g) xs t p M s w K E hd he h7 hM hs hw fun a r w' ha r0 r1 hw' P hP => bent_5 n g j hT xs a r t p M s w' K E hd ht ha h7 hM hs hw' k P hP
  | _ => first | (exact absurd hv.v Bool.false_ne_true) | (simp (maxSteps := 2000000) [↓wSs, ↓wS, ↓wE, ↓wEs, ↓wAnd, ↓wOr, ↓wO, ↓wC, ↓wI, ↓slot, ↓asI, ↓asB, ↓asS, ↓asL, ↓items, ↓itemsL, ↓cop, ↓bop, ↓prim, at0, at1, at2, ↓tsS, ↓subS, ↓Ev.putIn, ↓sto, ↓dg, ↓fvE, ↓fvEs, ↓fvO, ↓fvI, ↓frp, ↓D.pure, ↓pureAll, ↓bindT, ↓tgl, ↓wipeS, ↓isTy, ↓D.eqOk, ↓D.isStr, ↓D.flat, ↓at_fn, ↓at_kw, ↓at_cs, bentC]; exact b2)
theorem p__law_bent_L1 : ∀ ds w K E, S__law_bent_L1 ds w K E → ds.length = 2 ∧ wSs (TT.at 9) b__law_bent_L1 (startS 4 ds) w { nx := fun _ w' => K .non 2 w', rt := K } E := by
  rintro ds w K E ⟨d, t, p, M, s, rfl, hd, ht, h7, hM, hs, hw, k⟩
  refine ⟨rfl, ?_⟩
  show wSs _ _ [some (.wel, 0), some (d, 0), none, none] _ _ _
  have b2 := bent_2 9 d t p M s w K E hd h7 hM hw k
  have hv := hd
  cases d with
  | tup xs =>
    have := hd.t
    simp only [td] at this
    omega
  | _ => first | (exact absurd hv.v Bool.false_ne_true) | (simp (maxSteps := 2000000) [↓wSs, ↓wS, ↓wE, ↓wEs, ↓wAnd, ↓wOr, ↓wO, ↓wC, ↓wI, ↓slot, ↓asI, ↓asB, ↓asS, ↓asL, ↓items, ↓itemsL, ↓cop, ↓bop, ↓prim, at0, at1, at2, ↓tsS, ↓subS, ↓Ev.putIn, ↓sto, ↓dg, ↓fvE, ↓fvEs, ↓fvO, ↓fvI, ↓frp, ↓D.pure, ↓pureAll, ↓bindT, ↓tgl, ↓wipeS, ↓isTy, ↓D.eqOk, ↓D.isStr, ↓D.flat, ↓at_fn, ↓at_kw, ↓at_cs, b__law_bent_L1]; exact b2)
theorem p__law_bent_L2 : ∀ ds w K E, S__law_bent_L2 ds w K E → ds.length = 2 ∧ wSs (TT.at 10) b__law_bent_L2 (startS 4 ds) w { nx := fun _ w' => K .non 2 w', rt := K } E := p_bentB 1 9 _ rfl
theorem p__law_bent_L3 : ∀ ds w K E, S__law_bent_L3 ds w K E → ds.length = 2 ∧ wSs (TT.at 11) b__law_bent_L3 (startS 4 ds) w { nx := fun _ w' => K .non 2 w', rt := K } E := p_bentB 2 10 _ rfl
theorem p__law_bent_L4 : ∀ ds w K E, S__law_bent_L4 ds w K E → ds.length = 2 ∧ wSs (TT.at 12) b__law_bent_L4 (startS 4 ds) w { nx := fun _ w' => K .non 2 w', rt := K } E := p_bentB 3 11 _ rfl
theorem p__law_bent_L5 : ∀ ds w K E, S__law_bent_L5 ds w K E → ds.length = 2 ∧ wSs (TT.at 13) b__law_bent_L5 (startS 4 ds) w { nx := fun _ w' => K .non 2 w', rt := K } E := p_bentB 4 12 _ rfl
theorem p__law_bent_L6 : ∀ ds w K E, S__law_bent_L6 ds w K E → ds.length = 2 ∧ wSs (TT.at 14) b__law_bent_L6 (startS 4 ds) w { nx := fun _ w' => K .non 2 w', rt := K } E := p_bentB 5 13 _ rfl
theorem p__law_bent_L7 : ∀ ds w K E, S__law_bent_L7 ds w K E → ds.length = 2 ∧ wSs (TT.at 15) b__law_bent_L7 (startS 4 ds) w { nx := fun _ w' => K .non 2 w', rt := K } E := p_bentB 6 14 _ rfl
theorem p__law_bent_L8 : ∀ ds w K E, S__law_bent_L8 ds w K E → ds.length = 2 ∧ wSs (TT.at 16) b__law_bent_L8 (startS 4 ds) w { nx := fun _ w' => K .non 2 w', rt := K } E := p_bentB 7 15 _ rfl
theorem p__law_bent_L9 : ∀ ds w K E, S__law_bent_L9 ds w K E → ds.length = 2 ∧ wSs (TT.at 17) b__law_bent_L9 (startS 4 ds) w { nx := fun _ w' => K .non 2 w', rt := K } E := p_bentB 8 16 _ rfl
theorem p__law_bent_L10 : ∀ ds w K E, S__law_bent_L10 ds w K E → ds.length = 2 ∧ wSs (TT.at 18) b__law_bent_L10 (startS 4 ds) w { nx := fun _ w' => K .non 2 w', rt := K } E := p_bentB 9 17 _ rfl
end K02

set_option Elab.async false
set_option linter.all false
set_option maxRecDepth 100000
set_option maxHeartbeats 8000000
namespace K02
open PySem PySem.Spec PyProof.Rows L2 Ev

theorem ite_s {α : Type} {c : Prop} {i : Decidable c} {a : α} : @ite α c i a a = a := by cases i <;> rfl
theorem p_is_entry : ∀ ds w K E, S_is_entry ds w K E → ds.length = 1 ∧ wSs (TT.at 31) b_is_entry (startS 1 ds) w { nx := fun _ w' => K .non 2 w', rt := K } E := by
  rintro ds w K E ⟨d, rfl, hv, k⟩
  refine ⟨rfl, ?_⟩
  show wSs _ b_is_entry [some (d, 0)] _ _ _
  have hv2 := hv
  cases d <;> first | (exact absurd hv.v Bool.false_ne_true) | (simp (maxSteps := 2000000) [↓wSs, ↓wS, ↓wE, ↓wEs, ↓wAnd, ↓wOr, ↓wO, ↓wC, ↓wI, ↓slot, ↓asI, ↓asB, ↓asS, ↓asL, ↓items, ↓itemsL, ↓cop, ↓bop, ↓prim, at0, at1, at2, ↓tsS, ↓subS, ↓Ev.putIn, ↓sto, ↓dg, ↓fvE, ↓fvEs, ↓fvO, ↓fvI, ↓frp, ↓D.pure, ↓pureAll, ↓bindT, ↓tgl, ↓wipeS, ↓isTy, ↓D.eqOk, ↓D.isStr, ↓D.flat, ↓at_fn, ↓at_kw, ↓at_cs, b_is_entry, Ev.isNon, ↓tf0, ↓tf1, ↓tf2, ↓tf3, ↓tf4, ↓tf5, ↓tf6, ↓tf7, ↓tf8, ↓tf9, ↓tf10, ↓tf11, ↓tf12, ↓tf13, ↓tf14, ↓tf15, ↓tf16, ↓tf17, ↓tf18, ↓tf19, ↓tf20, ↓tf21, ↓tf22, ↓tf23, ↓tf24, ↓tf25, ↓tf26, ↓tf27, ↓tf28, ↓tf29, ↓tf30, ↓tf31, ↓tf32, ↓tf33, ↓tf34, ↓tf35, ↓tf36, ↓tf37, ↓tf38, ↓tf39, ↓tf40, ↓tf41, ↓tf42, ↓tf43, ↓S_is_whole, isW, hv2]; exact k)
theorem isSq_eq {p : D → Bool} {xs : List D} (h : xs ≠ []) : isSq p (.tup xs) = xs.all (isR p xs.length) := by
  cases xs with
  | nil => exact absurd rfl h
  | cons x xs => rfl
theorem isR_tup {p : D → Bool} {n : Nat} {d : D} (h : isR p n d = true) : ∃ ys, d = .tup ys ∧ ys.length = n ∧ ys.all p = true := by
  cases d with
  | tup ys =>
    simp only [isR, Bool.and_eq_true, decide_eq_true_eq] at h
    exact ⟨ys, rfl, h⟩
  | _ => simp [isR] at h
theorem sq_of (J g : Nat) (p : D → Bool) (hT : ∀ x w K E, Od x → K (.bl (p x)) 2 w → TT.fn g [x] w K E) (hc : (TT.at J).cv g = true) (d : D) (w : Wl) (K : KE) (E : XQ) (hv : Od d) (k : K (.bl (isSq p d)) 2 w) :
    wSs (TT.at J) b_is_square_of [some (d, 0), some (.fn g, 0), none, none, none] w { nx := fun _ w' => K .non 2 w', rt := K } E := by
  have hv2 := hv
  cases d with
  | tup xs =>
    obtain ⟨hl, hx⟩ := od_items hv
    simp (maxSteps := 2000000) [↓wSs, ↓wS, ↓wE, ↓wEs, ↓wAnd, ↓wOr, ↓wO, ↓wC, ↓wI, ↓slot, ↓asI, ↓asB, ↓asS, ↓asL, ↓items, ↓itemsL, ↓cop, ↓bop, ↓prim, at0, at1, at2, ↓tsS, ↓subS, ↓Ev.putIn, ↓sto, ↓dg, ↓fvE, ↓fvEs, ↓fvO, ↓fvI, ↓frp, ↓D.pure, ↓pureAll, ↓bindT, ↓tgl, ↓wipeS, ↓isTy, ↓D.eqOk, ↓D.isStr, ↓D.flat, ↓at_fn, ↓at_kw, ↓at_cs, b_is_square_of, nil_t, eqn_t]
    by_cases he : xs = []
    · subst he
      rw [if_pos rfl]
      exact k
    · rw [if_neg he]
      rw [isSq_eq he] at k
      simp (maxSteps := 2000000) [↓wSs, ↓wS, ↓wE, ↓wEs, ↓wAnd, ↓wOr, ↓wO, ↓wC, ↓wI, ↓slot, ↓asI, ↓asB, ↓asS, ↓asL, ↓items, ↓itemsL, ↓cop, ↓bop, ↓prim, at0, at1, at2, ↓tsS, ↓subS, ↓Ev.putIn, ↓sto, ↓dg, ↓fvE, ↓fvEs, ↓fvO, ↓fvI, ↓frp, ↓D.pure, ↓pureAll, ↓bindT, ↓tgl, ↓wipeS, ↓isTy, ↓D.eqOk, ↓D.isStr, ↓D.flat, ↓at_fn, ↓at_kw, ↓at_cs, b_is_square_of_3]
      refine turns_map (g := fun d => .bl (isR p xs.length d)) (by omega) (fun i x acc N hxi hacc hN => ?_) ?_
      · have hxo := hx x (List.mem_of_getElem? hxi)
        have hv3 := hxo
        cases x with
        | tup ys =>
          obtain ⟨hl2, hy⟩ := od_items hxo
          by_cases h : ys.length = xs.length
          · simp (maxSteps := 2000000) [↓wSs, ↓wS, ↓wE, ↓wEs, ↓wAnd, ↓wOr, ↓wO, ↓wC, ↓wI, ↓slot, ↓asI, ↓asB, ↓asS, ↓asL, ↓items, ↓itemsL, ↓cop, ↓bop, ↓prim, at0, at1, at2, ↓tsS, ↓subS, ↓Ev.putIn, ↓sto, ↓dg, ↓fvE, ↓fvEs, ↓fvO, ↓fvI, ↓frp, ↓D.pure, ↓pureAll, ↓bindT, ↓tgl, ↓wipeS, ↓isTy, ↓D.eqOk, ↓D.isStr, ↓D.flat, ↓at_fn, ↓at_kw, ↓at_cs, e_is_square_of_2, h, ok_int, eqD_int]
            refine turns_map (g := fun d => .bl (p d)) (by omega) (fun j y acc2 N2 hyj hacc2 hN2 => ?_) ?_
            · simp (maxSteps := 2000000) [↓wSs, ↓wS, ↓wE, ↓wEs, ↓wAnd, ↓wOr, ↓wO, ↓wC, ↓wI, ↓slot, ↓asI, ↓asB, ↓asS, ↓asL, ↓items, ↓itemsL, ↓cop, ↓bop, ↓prim, at0, at1, at2, ↓tsS, ↓subS, ↓Ev.putIn, ↓sto, ↓dg, ↓fvE, ↓fvEs, ↓fvO, ↓fvI, ↓frp, ↓D.pure, ↓pureAll, ↓bindT, ↓tgl, ↓wipeS, ↓isTy, ↓D.eqOk, ↓D.isStr, ↓D.flat, ↓at_fn, ↓at_kw, ↓at_cs, e_is_square_of_1, hc]
              exact hT y w _ _ (hy y (List.mem_of_getElem? hyj)) ⟨hacc2, hN2⟩
            · refine ⟨_, bls_map (p := p) ys, ?_⟩
              rw [all_id]
              refine ⟨hacc, ?_⟩
              simpa [isR, h] using hN
          · have h' : ¬ ((ys.length : Nat) : Int) = (xs.length : Nat) := by omega
            simp (maxSteps := 2000000) [↓wSs, ↓wS, ↓wE, ↓wEs, ↓wAnd, ↓wOr, ↓wO, ↓wC, ↓wI, ↓slot, ↓asI, ↓asB, ↓asS, ↓asL, ↓items, ↓itemsL, ↓cop, ↓bop, ↓prim, at0, at1, at2, ↓tsS, ↓subS, ↓Ev.putIn, ↓sto, ↓dg, ↓fvE, ↓fvEs, ↓fvO, ↓fvI, ↓frp, ↓D.pure, ↓pureAll, ↓bindT, ↓tgl, ↓wipeS, ↓isTy, ↓D.eqOk, ↓D.isStr, ↓D.flat, ↓at_fn, ↓at_kw, ↓at_cs, e_is_square_of_2, h, h', ok_int, eqD_int]
            refine ⟨hacc, ?_⟩
            simpa [isR, h] using hN
        | _ => first | (exact absurd hv3.v Bool.false_ne_true) | (simp (maxSteps := 2000000) [↓wSs, ↓wS, ↓wE, ↓wEs, ↓wAnd, ↓wOr, ↓wO, ↓wC, ↓wI, ↓slot, ↓asI, ↓asB, ↓asS, ↓asL, ↓items, ↓itemsL, ↓cop, ↓bop, ↓prim, at0, at1, at2, ↓tsS, ↓subS, ↓Ev.putIn, ↓sto, ↓dg, ↓fvE, ↓fvEs, ↓fvO, ↓fvI, ↓frp, ↓D.pure, ↓pureAll, ↓bindT, ↓tgl, ↓wipeS, ↓isTy, ↓D.eqOk, ↓D.isStr, ↓D.flat, ↓at_fn, ↓at_kw, ↓at_cs, e_is_square_of_2]; exact ⟨hacc, hN⟩)
      · refine ⟨_, bls_map (p := isR p xs.length) xs, ?_⟩
        rw [all_id]
        exact k
  | _ => first | (exact absurd hv2.v Bool.false_ne_true) | (simp (maxSteps := 2000000) [↓wSs, ↓wS, ↓wE, ↓wEs, ↓wAnd, ↓wOr, ↓wO, ↓wC, ↓wI, ↓slot, ↓asI, ↓asB, ↓asS, ↓asL, ↓items, ↓itemsL, ↓cop, ↓bop, ↓prim, at0, at1, at2, ↓tsS, ↓subS, ↓Ev.putIn, ↓sto, ↓dg, ↓fvE, ↓fvEs, ↓fvO, ↓fvI, ↓frp, ↓D.pure, ↓pureAll, ↓bindT, ↓tgl, ↓wipeS, ↓isTy, ↓D.eqOk, ↓D.isStr, ↓D.flat, ↓at_fn, ↓at_kw, ↓at_cs, b_is_square_of]; exact k)
theorem p_is_square_of : ∀ ds w K E, S_is_square_of ds w K E → ds.length = 2 ∧ wSs (TT.at 32) b_is_square_of (startS 5 ds) w { nx := fun _ w' => K .non 2 w', rt := K } E := by
  rintro ds w K E ⟨d, g, rfl, hv, hg⟩
  refine ⟨rfl, ?_⟩
  rcases hg with ⟨rfl, k⟩ | ⟨rfl, k⟩
  · exact sq_of 32 30 isP (fun x w K E h q => ⟨x, rfl, h, q⟩) rfl d w K E hv k
  · exact sq_of 32 31 isE (fun x w K E h q => ⟨x, rfl, h, q⟩) rfl d w K E hv k
theorem p_is_modelled : ∀ ds w K E, S_is_modelled ds w K E → ds.length = 1 ∧ wSs (TT.at 33) b_is_modelled (startS 1 ds) w { nx := fun _ w' => K .non 2 w', rt := K } E := by
  rintro ds w K E ⟨d, rfl, hv, k⟩
  refine ⟨rfl, ?_⟩
  show wSs _ b_is_modelled [some (d, 0)] _ _ _
  simp (maxSteps := 2000000) [↓wSs, ↓wS, ↓wE, ↓wEs, ↓wAnd, ↓wOr, ↓wO, ↓wC, ↓wI, ↓slot, ↓asI, ↓asB, ↓asS, ↓asL, ↓items, ↓itemsL, ↓cop, ↓bop, ↓prim, at0, at1, at2, ↓tsS, ↓subS, ↓Ev.putIn, ↓sto, ↓dg, ↓fvE, ↓fvEs, ↓fvO, ↓fvI, ↓frp, ↓D.pure, ↓pureAll, ↓bindT, ↓tgl, ↓wipeS, ↓isTy, ↓D.eqOk, ↓D.isStr, ↓D.flat, ↓at_fn, ↓at_kw, ↓at_cs, b_is_modelled, ↓tf0, ↓tf1, ↓tf2, ↓tf3, ↓tf4, ↓tf5, ↓tf6, ↓tf7, ↓tf8, ↓tf9, ↓tf10, ↓tf11, ↓tf12, ↓tf13, ↓tf14, ↓tf15, ↓tf16, ↓tf17, ↓tf18, ↓tf19, ↓tf20, ↓tf21, ↓tf22, ↓tf23, ↓tf24, ↓tf25, ↓tf26, ↓tf27, ↓tf28, ↓tf29, ↓tf30, ↓tf31, ↓tf32, ↓tf33, ↓tf34, ↓tf35, ↓tf36, ↓tf37, ↓tf38, ↓tf39, ↓tf40, ↓tf41, ↓tf42, ↓tf43]
  exact ⟨d, _, rfl, hv, .inl ⟨rfl, k⟩⟩
theorem p_is_patterned : ∀ ds w K E, S_is_patterned ds w K E → ds.length = 1 ∧ wSs (TT.at 38) b_is_patterned (startS 1 ds) w { nx := fun _ w' => K .non 2 w', rt := K } E := by
  rintro ds w K E ⟨d, rfl, hv, k⟩
  refine ⟨rfl, ?_⟩
  show wSs _ b_is_patterned [some (d, 0)] _ _ _
  simp (maxSteps := 2000000) [↓wSs, ↓wS, ↓wE, ↓wEs, ↓wAnd, ↓wOr, ↓wO, ↓wC, ↓wI, ↓slot, ↓asI, ↓asB, ↓asS, ↓asL, ↓items, ↓itemsL, ↓cop, ↓bop, ↓prim, at0, at1, at2, ↓tsS, ↓subS, ↓Ev.putIn, ↓sto, ↓dg, ↓fvE, ↓fvEs, ↓fvO, ↓fvI, ↓frp, ↓D.pure, ↓pureAll, ↓bindT, ↓tgl, ↓wipeS, ↓isTy, ↓D.eqOk, ↓D.isStr, ↓D.flat, ↓at_fn, ↓at_kw, ↓at_cs, b_is_patterned, ↓tf0, ↓tf1, ↓tf2, ↓tf3, ↓tf4, ↓tf5, ↓tf6, ↓tf7, ↓tf8, ↓tf9, ↓tf10, ↓tf11, ↓tf12, ↓tf13, ↓tf14, ↓tf15, ↓tf16, ↓tf17, ↓tf18, ↓tf19, ↓tf20, ↓tf21, ↓tf22, ↓tf23, ↓tf24, ↓tf25, ↓tf26, ↓tf27, ↓tf28, ↓tf29, ↓tf30, ↓tf31, ↓tf32, ↓tf33, ↓tf34, ↓tf35, ↓tf36, ↓tf37, ↓tf38, ↓tf39, ↓tf40, ↓tf41, ↓tf42, ↓tf43]
  exact ⟨d, _, rfl, hv, .inr ⟨rfl, k⟩⟩
theorem p_is_model : ∀ ds w K E, S_is_model ds w K E → ds.length = 1 ∧ wSs (TT.at 40) b_is_model (startS 1 ds) w { nx := fun _ w' => K .non 2 w', rt := K } E := by
  rintro ds w K E ⟨d, rfl, hv, k⟩
  refine ⟨rfl, ?_⟩
  show wSs _ b_is_model [some (d, 0)] _ _ _
  simp (maxSteps := 2000000) [↓wSs, ↓wS, ↓wE, ↓wEs, ↓wAnd, ↓wOr, ↓wO, ↓wC, ↓wI, ↓slot, ↓asI, ↓asB, ↓asS, ↓asL, ↓items, ↓itemsL, ↓cop, ↓bop, ↓prim, at0, at1, at2, ↓tsS, ↓subS, ↓Ev.putIn, ↓sto, ↓dg, ↓fvE, ↓fvEs, ↓fvO, ↓fvI, ↓frp, ↓D.pure, ↓pureAll, ↓bindT, ↓tgl, ↓wipeS, ↓isTy, ↓D.eqOk, ↓D.isStr, ↓D.flat, ↓at_fn, ↓at_kw, ↓at_cs, b_is_model, ↓tf0, ↓tf1, ↓tf2, ↓tf3, ↓tf4, ↓tf5, ↓tf6, ↓tf7, ↓tf8, ↓tf9, ↓tf10, ↓tf11, ↓tf12, ↓tf13, ↓tf14, ↓tf15, ↓tf16, ↓tf17, ↓tf18, ↓tf19, ↓tf20, ↓tf21, ↓tf22, ↓tf23, ↓tf24, ↓tf25, ↓tf26, ↓tf27, ↓tf28, ↓tf29, ↓tf30, ↓tf31, ↓tf32, ↓tf33, ↓tf34, ↓tf35, ↓tf36, ↓tf37, ↓tf38, ↓tf39, ↓tf40, ↓tf41, ↓tf42, ↓tf43]
  exact ⟨d, rfl, hv, k⟩
theorem p_is_pattern : ∀ ds w K E, S_is_pattern ds w K E → ds.length = 1 ∧ wSs (TT.at 39) b_is_pattern (startS 1 ds) w { nx := fun _ w' => K .non 2 w', rt := K } E := by
  rintro ds w K E ⟨d, rfl, hv, k⟩
  refine ⟨rfl, ?_⟩
  show wSs _ b_is_pattern [some (d, 0)] _ _ _
  simp (maxSteps := 2000000) [↓wSs, ↓wS, ↓wE, ↓wEs, ↓wAnd, ↓wOr, ↓wO, ↓wC, ↓wI, ↓slot, ↓asI, ↓asB, ↓asS, ↓asL, ↓items, ↓itemsL, ↓cop, ↓bop, ↓prim, at0, at1, at2, ↓tsS, ↓subS, ↓Ev.putIn, ↓sto, ↓dg, ↓fvE, ↓fvEs, ↓fvO, ↓fvI, ↓frp, ↓D.pure, ↓pureAll, ↓bindT, ↓tgl, ↓wipeS, ↓isTy, ↓D.eqOk, ↓D.isStr, ↓D.flat, ↓at_fn, ↓at_kw, ↓at_cs, b_is_pattern, ↓tf0, ↓tf1, ↓tf2, ↓tf3, ↓tf4, ↓tf5, ↓tf6, ↓tf7, ↓tf8, ↓tf9, ↓tf10, ↓tf11, ↓tf12, ↓tf13, ↓tf14, ↓tf15, ↓tf16, ↓tf17, ↓tf18, ↓tf19, ↓tf20, ↓tf21, ↓tf22, ↓tf23, ↓tf24, ↓tf25, ↓tf26, ↓tf27, ↓tf28, ↓tf29, ↓tf30, ↓tf31, ↓tf32, ↓tf33, ↓tf34, ↓tf35, ↓tf36, ↓tf37, ↓tf38, ↓tf39, ↓tf40, ↓tf41, ↓tf42, ↓tf43]
  exact ⟨d, rfl, hv, k⟩
theorem p_check_model : ∀ ds w K E, S_check_model ds w K E → ds.length = 1 ∧ wSs (TT.at 34) b_check_model (startS 1 ds) w { nx := fun _ w' => K .non 2 w', rt := K } E := by
  rintro ds w K E ⟨d, rfl, hv, k, e⟩
  refine ⟨rfl, ?_⟩
  show wSs _ b_check_model [some (d, 0)] _ _ _
  simp (maxSteps := 2000000) [↓wSs, ↓wS, ↓wE, ↓wEs, ↓wAnd, ↓wOr, ↓wO, ↓wC, ↓wI, ↓slot, ↓asI, ↓asB, ↓asS, ↓asL, ↓items, ↓itemsL, ↓cop, ↓bop, ↓prim, at0, at1, at2, ↓tsS, ↓subS, ↓Ev.putIn, ↓sto, ↓dg, ↓fvE, ↓fvEs, ↓fvO, ↓fvI, ↓frp, ↓D.pure, ↓pureAll, ↓bindT, ↓tgl, ↓wipeS, ↓isTy, ↓D.eqOk, ↓D.isStr, ↓D.flat, ↓at_fn, ↓at_kw, ↓at_cs, b_check_model, ↓tf0, ↓tf1, ↓tf2, ↓tf3, ↓tf4, ↓tf5, ↓tf6, ↓tf7, ↓tf8, ↓tf9, ↓tf10, ↓tf11, ↓tf12, ↓tf13, ↓tf14, ↓tf15, ↓tf16, ↓tf17, ↓tf18, ↓tf19, ↓tf20, ↓tf21, ↓tf22, ↓tf23, ↓tf24, ↓tf25, ↓tf26, ↓tf27, ↓tf28, ↓tf29, ↓tf30, ↓tf31, ↓tf32, ↓tf33, ↓tf34, ↓tf35, ↓tf36, ↓tf37, ↓tf38, ↓tf39, ↓tf40, ↓tf41, ↓tf42, ↓tf43, ↓S_is_modelled]
  refine ⟨hv, ?_⟩
  cases h : isSq isP d with
  | true => exact k h
  | false => exact e h
/-! ### the law's own judges -/
theorem p__law_is_square : ∀ ds w K E, S__law_is_square ds w K E → ds.length = 1 ∧ wSs (TT.at 19) b__law_is_square (startS 2 ds) w { nx := fun _ w' => K .non 2 w', rt := K } E := by
  rintro ds w K E ⟨d, rfl, hv, k⟩
  refine ⟨rfl, ?_⟩
  show wSs _ b__law_is_square [some (d, 0), none] _ _ _
  have hv2 := hv
  cases d with
  | tup xs =>
    obtain ⟨hl, hx⟩ := od_items hv
    simp (maxSteps := 2000000) [↓wSs, ↓wS, ↓wE, ↓wEs, ↓wAnd, ↓wOr, ↓wO, ↓wC, ↓wI, ↓slot, ↓asI, ↓asB, ↓asS, ↓asL, ↓items, ↓itemsL, ↓cop, ↓bop, ↓prim, at0, at1, at2, ↓tsS, ↓subS, ↓Ev.putIn, ↓sto, ↓dg, ↓fvE, ↓fvEs, ↓fvO, ↓fvI, ↓frp, ↓D.pure, ↓pureAll, ↓bindT, ↓tgl, ↓wipeS, ↓isTy, ↓D.eqOk, ↓D.isStr, ↓D.flat, ↓at_fn, ↓at_kw, ↓at_cs, b__law_is_square, nil_t, eqn_t]
    by_cases he : xs = []
    · subst he
      rw [if_pos rfl]
      exact k
    · rw [if_neg he]
      rw [isSq_eq he] at k
      simp (maxSteps := 2000000) [↓wSs, ↓wS, ↓wE, ↓wEs, ↓wAnd, ↓wOr, ↓wO, ↓wC, ↓wI, ↓slot, ↓asI, ↓asB, ↓asS, ↓asL, ↓items, ↓itemsL, ↓cop, ↓bop, ↓prim, at0, at1, at2, ↓tsS, ↓subS, ↓Ev.putIn, ↓sto, ↓dg, ↓fvE, ↓fvEs, ↓fvO, ↓fvI, ↓frp, ↓D.pure, ↓pureAll, ↓bindT, ↓tgl, ↓wipeS, ↓isTy, ↓D.eqOk, ↓D.isStr, ↓D.flat, ↓at_fn, ↓at_kw, ↓at_cs, b__law_is_square_3]
      refine forS_from (fun i ρ w' => w' = w ∧ ((xs.take i).all (isR (fun _ => true) xs.length) = true) ∧ ∃ x1 : Option (D × Nat), ρ = [some (.tup xs, 0), x1]) ?_ ?_ ?_
      · exact ⟨rfl, rfl, none, ite_s⟩
      · rintro i x ρ w' N hxi ⟨rfl, ha, x1, rfl⟩ hN
        have hxo := hx x (List.mem_of_getElem? hxi)
        have hv3 := hxo
        have no : isR (fun _ => true) xs.length x = false → K (.bl false) 2 w' := fun e => by
          have : xs.all (isR (fun _ => true) xs.length) = false := by
            rw [List.all_eq_false]
            exact ⟨x, List.mem_of_getElem? hxi, by rw [e]; simp⟩
          rw [this] at k
          exact k
        cases x with
        | tup ys =>
          by_cases h : ys.length = xs.length
          · simp (maxSteps := 2000000) [↓wSs, ↓wS, ↓wE, ↓wEs, ↓wAnd, ↓wOr, ↓wO, ↓wC, ↓wI, ↓slot, ↓asI, ↓asB, ↓asS, ↓asL, ↓items, ↓itemsL, ↓cop, ↓bop, ↓prim, at0, at1, at2, ↓tsS, ↓subS, ↓Ev.putIn, ↓sto, ↓dg, ↓fvE, ↓fvEs, ↓fvO, ↓fvI, ↓frp, ↓D.pure, ↓pureAll, ↓bindT, ↓tgl, ↓wipeS, ↓isTy, ↓D.eqOk, ↓D.isStr, ↓D.flat, ↓at_fn, ↓at_kw, ↓at_cs, b__law_is_square_2, h, ok_int, eqD_int]
            refine hN _ _ ⟨rfl, ?_, _, rfl⟩
            rw [List.take_add_one, hxi, List.all_append, ha]
            simp [isR, h]
          · have h' : ¬ ((ys.length : Nat) : Int) = (xs.length : Nat) := by omega
            simp (maxSteps := 2000000) [↓wSs, ↓wS, ↓wE, ↓wEs, ↓wAnd, ↓wOr, ↓wO, ↓wC, ↓wI, ↓slot, ↓asI, ↓asB, ↓asS, ↓asL, ↓items, ↓itemsL, ↓cop, ↓bop, ↓prim, at0, at1, at2, ↓tsS, ↓subS, ↓Ev.putIn, ↓sto, ↓dg, ↓fvE, ↓fvEs, ↓fvO, ↓fvI, ↓frp, ↓D.pure, ↓pureAll, ↓bindT, ↓tgl, ↓wipeS, ↓isTy, ↓D.eqOk, ↓D.isStr, ↓D.flat, ↓at_fn, ↓at_kw, ↓at_cs, b__law_is_square_2, h, h', ok_int, eqD_int]
            exact no (by simp [isR, h])
        | _ => first | (exact absurd hv3.v Bool.false_ne_true) | (simp (maxSteps := 2000000) [↓wSs, ↓wS, ↓wE, ↓wEs, ↓wAnd, ↓wOr, ↓wO, ↓wC, ↓wI, ↓slot, ↓asI, ↓asB, ↓asS, ↓asL, ↓items, ↓itemsL, ↓cop, ↓bop, ↓prim, at0, at1, at2, ↓tsS, ↓subS, ↓Ev.putIn, ↓sto, ↓dg, ↓fvE, ↓fvEs, ↓fvO, ↓fvI, ↓frp, ↓D.pure, ↓pureAll, ↓bindT, ↓tgl, ↓wipeS, ↓isTy, ↓D.eqOk, ↓D.isStr, ↓D.flat, ↓at_fn, ↓at_kw, ↓at_cs, b__law_is_square_2]; exact no rfl)
      · rintro ρ w' ⟨rfl, ha, x1, rfl⟩
        rw [List.take_length] at ha
        simp (maxSteps := 2000000) [↓wSs, ↓wS, ↓wE, ↓wEs, ↓wAnd, ↓wOr, ↓wO, ↓wC, ↓wI, ↓slot, ↓asI, ↓asB, ↓asS, ↓asL, ↓items, ↓itemsL, ↓cop, ↓bop, ↓prim, at0, at1, at2, ↓tsS, ↓subS, ↓Ev.putIn, ↓sto, ↓dg, ↓fvE, ↓fvEs, ↓fvO, ↓fvI, ↓frp, ↓D.pure, ↓pureAll, ↓bindT, ↓tgl, ↓wipeS, ↓isTy, ↓D.eqOk, ↓D.isStr, ↓D.flat, ↓at_fn, ↓at_kw, ↓at_cs, b__law_is_square_1]
        rw [ha] at k
        exact k
  | _ => first | (exact absurd hv2.v Bool.false_ne_true) | (simp (maxSteps := 2000000) [↓wSs, ↓wS, ↓wE, ↓wEs, ↓wAnd, ↓wOr, ↓wO, ↓wC, ↓wI, ↓slot, ↓asI, ↓asB, ↓asS, ↓asL, ↓items, ↓itemsL, ↓cop, ↓bop, ↓prim, at0, at1, at2, ↓tsS, ↓subS, ↓Ev.putIn, ↓sto, ↓dg, ↓fvE, ↓fvEs, ↓fvO, ↓fvI, ↓frp, ↓D.pure, ↓pureAll, ↓bindT, ↓tgl, ↓wipeS, ↓isTy, ↓D.eqOk, ↓D.isStr, ↓D.flat, ↓at_fn, ↓at_kw, ↓at_cs, b__law_is_square]; exact k)
theorem sq_rows {d : D} (h : isSq (fun _ => true) d = true) : ∃ xs, d = .tup xs ∧ xs ≠ [] ∧ ∀ x ∈ xs, ∃ ys, x = .tup ys ∧ ys.length = xs.length := by
  cases d with
  | tup xs =>
    cases xs with
    | nil => simp [isSq] at h
    | cons x xs =>
      refine ⟨_, rfl, by simp, fun y hy => ?_⟩
      obtain ⟨ys, h1, h2, _⟩ := isR_tup (List.all_eq_true.mp h y hy)
      exact ⟨ys, h1, h2⟩
  | _ => simp [isSq] at h
theorem sq_imp {p : D → Bool} {d : D} (h : isSq (fun _ => true) d = false) : isSq p d = false := by
  cases e : isSq p d with
  | false => rfl
  | true =>
    cases d with
    | tup xs =>
      cases xs with
      | nil => simp [isSq] at e
      | cons x xs =>
        have : isSq (fun _ => true) (.tup (x :: xs)) = true := by
          refine List.all_eq_true.mpr fun y hy => ?_
          obtain ⟨ys, h1, h2, _⟩ := isR_tup (List.all_eq_true.mp e y hy)
          subst h1
          simp [isR, h2]
        rw [this] at h
        cases h
    | _ => simp [isSq] at e
theorem sq_no {p : D → Bool} {xs ys : List D} {y : D} (h : .tup ys ∈ xs) (hy : y ∈ ys) (hp : p y = false) : isSq p (.tup xs) = false := by
  rw [isSq_eq (by intro e; subst e; simp at h), List.all_eq_false]
  refine ⟨_, h, ?_⟩
  have : ys.all p = false := by
    rw [List.all_eq_false]
    exact ⟨y, hy, by rw [hp]; simp⟩
  simp [isR, this]
theorem sq_yes {p : D → Bool} {xs : List D} (h0 : xs ≠ []) (h : ∀ x ∈ xs, ∃ ys, x = .tup ys ∧ ys.length = xs.length ∧ ys.all p = true) : isSq p (.tup xs) = true := by
  rw [isSq_eq h0, List.all_eq_true]
  intro x hx
  obtain ⟨ys, rfl, h1, h2⟩ := h x hx
  simp [isR, h1, h2]
theorem p__law_is_grid : ∀ ds w K E, S__law_is_grid ds w K E → ds.length = 1 ∧ wSs (TT.at 21) b__law_is_grid (startS 3 ds) w { nx := fun _ w' => K .non 2 w', rt := K } E := by
  rintro ds w K E ⟨d, rfl, hv, k⟩
  refine ⟨rfl, ?_⟩
  show wSs _ b__law_is_grid [some (d, 0), none, none] _ _ _
  simp (maxSteps := 2000000) [↓wSs, ↓wS, ↓wE, ↓wEs, ↓wAnd, ↓wOr, ↓wO, ↓wC, ↓wI, ↓slot, ↓asI, ↓asB, ↓asS, ↓asL, ↓items, ↓itemsL, ↓cop, ↓bop, ↓prim, at0, at1, at2, ↓tsS, ↓subS, ↓Ev.putIn, ↓sto, ↓dg, ↓fvE, ↓fvEs, ↓fvO, ↓fvI, ↓frp, ↓D.pure, ↓pureAll, ↓bindT, ↓tgl, ↓wipeS, ↓isTy, ↓D.eqOk, ↓D.isStr, ↓D.flat, ↓at_fn, ↓at_kw, ↓at_cs, b__law_is_grid, ↓tf0, ↓tf1, ↓tf2, ↓tf3, ↓tf4, ↓tf5, ↓tf6, ↓tf7, ↓tf8, ↓tf9, ↓tf10, ↓tf11, ↓tf12, ↓tf13, ↓tf14, ↓tf15, ↓tf16, ↓tf17, ↓tf18, ↓tf19, ↓tf20, ↓tf21, ↓tf22, ↓tf23, ↓tf24, ↓tf25, ↓tf26, ↓tf27, ↓tf28, ↓tf29, ↓tf30, ↓tf31, ↓tf32, ↓tf33, ↓tf34, ↓tf35, ↓tf36, ↓tf37, ↓tf38, ↓tf39, ↓tf40, ↓tf41, ↓tf42, ↓tf43, ↓S__law_is_square]
  refine ⟨hv, ?_⟩
  cases h : isSq (fun _ => true) d with
  | false =>
    rw [if_neg (by simp)]
    rw [sq_imp h] at k
    exact k
  | true =>
    rw [if_pos rfl]
    obtain ⟨xs, rfl, he, hr⟩ := sq_rows h
    obtain ⟨hl, hx⟩ := od_items hv
    simp (maxSteps := 2000000) [↓wSs, ↓wS, ↓wE, ↓wEs, ↓wAnd, ↓wOr, ↓wO, ↓wC, ↓wI, ↓slot, ↓asI, ↓asB, ↓asS, ↓asL, ↓items, ↓itemsL, ↓cop, ↓bop, ↓prim, at0, at1, at2, ↓tsS, ↓subS, ↓Ev.putIn, ↓sto, ↓dg, ↓fvE, ↓fvEs, ↓fvO, ↓fvI, ↓frp, ↓D.pure, ↓pureAll, ↓bindT, ↓tgl, ↓wipeS, ↓isTy, ↓D.eqOk, ↓D.isStr, ↓D.flat, ↓at_fn, ↓at_kw, ↓at_cs, b__law_is_grid_4]
    refine forS_from (fun i ρ w' => w' = w ∧ (∀ x ∈ xs.take i, ∃ ys, x = .tup ys ∧ ys.length = xs.length ∧ ys.all isE = true) ∧ ∃ x1 x2 : Option (D × Nat), ρ = [some (.tup xs, 0), x1, x2]) ?_ ?_ ?_
    · exact ⟨rfl, by simp, none, none, ite_s⟩
    · rintro i x ρ w' N hxi ⟨rfl, ha, x1, x2, rfl⟩ hN
      have hxm := List.mem_of_getElem? hxi
      obtain ⟨ys, rfl, hyl⟩ := hr x hxm
      obtain ⟨hl2, hy⟩ := od_items (hx _ hxm)
      simp (maxSteps := 2000000) [↓wSs, ↓wS, ↓wE, ↓wEs, ↓wAnd, ↓wOr, ↓wO, ↓wC, ↓wI, ↓slot, ↓asI, ↓asB, ↓asS, ↓asL, ↓items, ↓itemsL, ↓cop, ↓bop, ↓prim, at0, at1, at2, ↓tsS, ↓subS, ↓Ev.putIn, ↓sto, ↓dg, ↓fvE, ↓fvEs, ↓fvO, ↓fvI, ↓frp, ↓D.pure, ↓pureAll, ↓bindT, ↓tgl, ↓wipeS, ↓isTy, ↓D.eqOk, ↓D.isStr, ↓D.flat, ↓at_fn, ↓at_kw, ↓at_cs, b__law_is_grid_3]
      refine forS_from (fun j ρ w'' => w'' = w' ∧ ((ys.take j).all isE = true) ∧ ∃ x2 : Option (D × Nat), ρ = [some (.tup xs, 0), some (.tup ys, 0), x2]) ?_ ?_ ?_
      · exact ⟨rfl, rfl, x2, ite_s⟩
      · rintro j y ρ w'' N2 hyj ⟨rfl, hb, x2, rfl⟩ hN2
        have hym := List.mem_of_getElem? hyj
        have hyo := hy y hym
        have hv3 := hyo
        have no : isE y = false → K (.bl false) 2 w'' := fun e => by
          rw [sq_no hxm hym e] at k
          exact k
        have yes : isE y = true → ∀ x2, N2 [some (.tup xs, 0), some (.tup ys, 0), x2] w'' := fun e x2 =>
          hN2 _ _ ⟨rfl, by rw [List.take_add_one, hyj, List.all_append, hb]; simp [e], _, rfl⟩
        cases y with
        | non => simp (maxSteps := 2000000) [↓wSs, ↓wS, ↓wE, ↓wEs, ↓wAnd, ↓wOr, ↓wO, ↓wC, ↓wI, ↓slot, ↓asI, ↓asB, ↓asS, ↓asL, ↓items, ↓itemsL, ↓cop, ↓bop, ↓prim, at0, at1, at2, ↓tsS, ↓subS, ↓Ev.putIn, ↓sto, ↓dg, ↓fvE, ↓fvEs, ↓fvO, ↓fvI, ↓frp, ↓D.pure, ↓pureAll, ↓bindT, ↓tgl, ↓wipeS, ↓isTy, ↓D.eqOk, ↓D.isStr, ↓D.flat, ↓at_fn, ↓at_kw, ↓at_cs, b__law_is_grid_2, Ev.isNon]; exact yes rfl _
        | int z =>
          simp (maxSteps := 2000000) [↓wSs, ↓wS, ↓wE, ↓wEs, ↓wAnd, ↓wOr, ↓wO, ↓wC, ↓wI, ↓slot, ↓asI, ↓asB, ↓asS, ↓asL, ↓items, ↓itemsL, ↓cop, ↓bop, ↓prim, at0, at1, at2, ↓tsS, ↓subS, ↓Ev.putIn, ↓sto, ↓dg, ↓fvE, ↓fvEs, ↓fvO, ↓fvI, ↓frp, ↓D.pure, ↓pureAll, ↓bindT, ↓tgl, ↓wipeS, ↓isTy, ↓D.eqOk, ↓D.isStr, ↓D.flat, ↓at_fn, ↓at_kw, ↓at_cs, b__law_is_grid_2, Ev.isNon, ↓tf0, ↓tf1, ↓tf2, ↓tf3, ↓tf4, ↓tf5, ↓tf6, ↓tf7, ↓tf8, ↓tf9, ↓tf10, ↓tf11, ↓tf12, ↓tf13, ↓tf14, ↓tf15, ↓tf16, ↓tf17, ↓tf18, ↓tf19, ↓tf20, ↓tf21, ↓tf22, ↓tf23, ↓tf24, ↓tf25, ↓tf26, ↓tf27, ↓tf28, ↓tf29, ↓tf30, ↓tf31, ↓tf32, ↓tf33, ↓tf34, ↓tf35, ↓tf36, ↓tf37, ↓tf38, ↓tf39, ↓tf40, ↓tf41, ↓tf42, ↓tf43, ↓S__law_is_whole, ↓S_is_whole, isW, hyo]
          split
          · exact no (by simp [isE]; omega)
          · exact yes (by simp [isE]; omega) _
        | _ => first | (exact absurd hv3.v Bool.false_ne_true) | (simp (maxSteps := 2000000) [↓wSs, ↓wS, ↓wE, ↓wEs, ↓wAnd, ↓wOr, ↓wO, ↓wC, ↓wI, ↓slot, ↓asI, ↓asB, ↓asS, ↓asL, ↓items, ↓itemsL, ↓cop, ↓bop, ↓prim, at0, at1, at2, ↓tsS, ↓subS, ↓Ev.putIn, ↓sto, ↓dg, ↓fvE, ↓fvEs, ↓fvO, ↓fvI, ↓frp, ↓D.pure, ↓pureAll, ↓bindT, ↓tgl, ↓wipeS, ↓isTy, ↓D.eqOk, ↓D.isStr, ↓D.flat, ↓at_fn, ↓at_kw, ↓at_cs, b__law_is_grid_2, Ev.isNon, ↓tf0, ↓tf1, ↓tf2, ↓tf3, ↓tf4, ↓tf5, ↓tf6, ↓tf7, ↓tf8, ↓tf9, ↓tf10, ↓tf11, ↓tf12, ↓tf13, ↓tf14, ↓tf15, ↓tf16, ↓tf17, ↓tf18, ↓tf19, ↓tf20, ↓tf21, ↓tf22, ↓tf23, ↓tf24, ↓tf25, ↓tf26, ↓tf27, ↓tf28, ↓tf29, ↓tf30, ↓tf31, ↓tf32, ↓tf33, ↓tf34, ↓tf35, ↓tf36, ↓tf37, ↓tf38, ↓tf39, ↓tf40, ↓tf41, ↓tf42, ↓tf43, ↓S__law_is_whole, ↓S_is_whole, isW, hyo]; exact no rfl)
      · rintro ρ w'' ⟨rfl, hb, x2, rfl⟩
        rw [List.take_length] at hb
        refine hN _ _ ⟨rfl, fun x hx2 => ?_, _, _, rfl⟩
        rw [List.take_add_one, hxi] at hx2
        rcases List.mem_append.mp hx2 with q | q
        · exact ha x q
        · simp at q
          exact ⟨ys, q, hyl, hb⟩
    · rintro ρ w' ⟨rfl, ha, x1, x2, rfl⟩
      rw [List.take_length] at ha
      simp (maxSteps := 2000000) [↓wSs, ↓wS, ↓wE, ↓wEs, ↓wAnd, ↓wOr, ↓wO, ↓wC, ↓wI, ↓slot, ↓asI, ↓asB, ↓asS, ↓asL, ↓items, ↓itemsL, ↓cop, ↓bop, ↓prim, at0, at1, at2, ↓tsS, ↓subS, ↓Ev.putIn, ↓sto, ↓dg, ↓fvE, ↓fvEs, ↓fvO, ↓fvI, ↓frp, ↓D.pure, ↓pureAll, ↓bindT, ↓tgl, ↓wipeS, ↓isTy, ↓D.eqOk, ↓D.isStr, ↓D.flat, ↓at_fn, ↓at_kw, ↓at_cs, b__law_is_grid_1]
      rw [sq_yes he ha] at k
      exact k
theorem p__law_is_sheet : ∀ ds w K E, S__law_is_sheet ds w K E → ds.length = 1 ∧ wSs (TT.at 24) b__law_is_sheet (startS 3 ds) w { nx := fun _ w' => K .non 2 w', rt := K } E := by
  rintro ds w K E ⟨d, rfl, hv, k⟩
  refine ⟨rfl, ?_⟩
  show wSs _ b__law_is_sheet [some (d, 0), none, none] _ _ _
  simp (maxSteps := 2000000) [↓wSs, ↓wS, ↓wE, ↓wEs, ↓wAnd, ↓wOr, ↓wO, ↓wC, ↓wI, ↓slot, ↓asI, ↓asB, ↓asS, ↓asL, ↓items, ↓itemsL, ↓cop, ↓bop, ↓prim, at0, at1, at2, ↓tsS, ↓subS, ↓Ev.putIn, ↓sto, ↓dg, ↓fvE, ↓fvEs, ↓fvO, ↓fvI, ↓frp, ↓D.pure, ↓pureAll, ↓bindT, ↓tgl, ↓wipeS, ↓isTy, ↓D.eqOk, ↓D.isStr, ↓D.flat, ↓at_fn, ↓at_kw, ↓at_cs, b__law_is_sheet, ↓tf0, ↓tf1, ↓tf2, ↓tf3, ↓tf4, ↓tf5, ↓tf6, ↓tf7, ↓tf8, ↓tf9, ↓tf10, ↓tf11, ↓tf12, ↓tf13, ↓tf14, ↓tf15, ↓tf16, ↓tf17, ↓tf18, ↓tf19, ↓tf20, ↓tf21, ↓tf22, ↓tf23, ↓tf24, ↓tf25, ↓tf26, ↓tf27, ↓tf28, ↓tf29, ↓tf30, ↓tf31, ↓tf32, ↓tf33, ↓tf34, ↓tf35, ↓tf36, ↓tf37, ↓tf38, ↓tf39, ↓tf40, ↓tf41, ↓tf42, ↓tf43, ↓S__law_is_square]
  refine ⟨hv, ?_⟩
  cases h : isSq (fun _ => true) d with
  | false =>
    rw [if_neg (by simp)]
    rw [sq_imp h] at k
    exact k
  | true =>
    rw [if_pos rfl]
    obtain ⟨xs, rfl, he, hr⟩ := sq_rows h
    obtain ⟨hl, hx⟩ := od_items hv
    simp (maxSteps := 2000000) [↓wSs, ↓wS, ↓wE, ↓wEs, ↓wAnd, ↓wOr, ↓wO, ↓wC, ↓wI, ↓slot, ↓asI, ↓asB, ↓asS, ↓asL, ↓items, ↓itemsL, ↓cop, ↓bop, ↓prim, at0, at1, at2, ↓tsS, ↓subS, ↓Ev.putIn, ↓sto, ↓dg, ↓fvE, ↓fvEs, ↓fvO, ↓fvI, ↓frp, ↓D.pure, ↓pureAll, ↓bindT, ↓tgl, ↓wipeS, ↓isTy, ↓D.eqOk, ↓D.isStr, ↓D.flat, ↓at_fn, ↓at_kw, ↓at_cs, b__law_is_sheet_4]
    refine forS_from (fun i ρ w' => w' = w ∧ (∀ x ∈ xs.take i, ∃ ys, x = .tup ys ∧ ys.length = xs.length ∧ ys.all isP = true) ∧ ∃ x1 x2 : Option (D × Nat), ρ = [some (.tup xs, 0), x1, x2]) ?_ ?_ ?_
    · exact ⟨rfl, by simp, none, none, ite_s⟩
    · rintro i x ρ w' N hxi ⟨rfl, ha, x1, x2, rfl⟩ hN
      have hxm := List.mem_of_getElem? hxi
      obtain ⟨ys, rfl, hyl⟩ := hr x hxm
      obtain ⟨hl2, hy⟩ := od_items (hx _ hxm)
      simp (maxSteps := 2000000) [↓wSs, ↓wS, ↓wE, ↓wEs, ↓wAnd, ↓wOr, ↓wO, ↓wC, ↓wI, ↓slot, ↓asI, ↓asB, ↓asS, ↓asL, ↓items, ↓itemsL, ↓cop, ↓bop, ↓prim, at0, at1, at2, ↓tsS, ↓subS, ↓Ev.putIn, ↓sto, ↓dg, ↓fvE, ↓fvEs, ↓fvO, ↓fvI, ↓frp, ↓D.pure, ↓pureAll, ↓bindT, ↓tgl, ↓wipeS, ↓isTy, ↓D.eqOk, ↓D.isStr, ↓D.flat, ↓at_fn, ↓at_kw, ↓at_cs, b__law_is_sheet_3, nil_l, eqn_l]
      refine turns_sel (p := fun d => !isP d) (by omega) (fun x acc fr N hxi hacc hN => ?_) fun fr => ?_
      · simp (maxSteps := 2000000) [↓wSs, ↓wS, ↓wE, ↓wEs, ↓wAnd, ↓wOr, ↓wO, ↓wC, ↓wI, ↓slot, ↓asI, ↓asB, ↓asS, ↓asL, ↓items, ↓itemsL, ↓cop, ↓bop, ↓prim, at0, at1, at2, ↓tsS, ↓subS, ↓Ev.putIn, ↓sto, ↓dg, ↓fvE, ↓fvEs, ↓fvO, ↓fvI, ↓frp, ↓D.pure, ↓pureAll, ↓bindT, ↓tgl, ↓wipeS, ↓isTy, ↓D.eqOk, ↓D.isStr, ↓D.flat, ↓at_fn, ↓at_kw, ↓at_cs, e__law_is_sheet_2, ↓tf0, ↓tf1, ↓tf2, ↓tf3, ↓tf4, ↓tf5, ↓tf6, ↓tf7, ↓tf8, ↓tf9, ↓tf10, ↓tf11, ↓tf12, ↓tf13, ↓tf14, ↓tf15, ↓tf16, ↓tf17, ↓tf18, ↓tf19, ↓tf20, ↓tf21, ↓tf22, ↓tf23, ↓tf24, ↓tf25, ↓tf26, ↓tf27, ↓tf28, ↓tf29, ↓tf30, ↓tf31, ↓tf32, ↓tf33, ↓tf34, ↓tf35, ↓tf36, ↓tf37, ↓tf38, ↓tf39, ↓tf40, ↓tf41, ↓tf42, ↓tf43, ↓S__law_is_polynomial, ↓S_is_poly]
        refine ⟨hy x hxi, ?_⟩
        cases q : isP x with
        | true => simpa [q] using hN
        | false =>
          simp [q] at hN
          simpa using ⟨hacc, hN _⟩
      · cases q : ys.all isP with
        | false =>
          rw [if_neg (by rw [filter_no, q]; simp)]
          rw [List.all_eq_false] at q
          obtain ⟨y, hym, e⟩ := q
          rw [sq_no hxm hym (by simpa using e)] at k
          exact k
        | true =>
          rw [if_pos (by rw [filter_no]; exact q)]
          refine hN _ _ ⟨rfl, fun x hx2 => ?_, _, _, rfl⟩
          rw [List.take_add_one, hxi] at hx2
          rcases List.mem_append.mp hx2 with z | z
          · exact ha x z
          · simp at z
            exact ⟨ys, z, hyl, q⟩
    · rintro ρ w' ⟨rfl, ha, x1, x2, rfl⟩
      rw [List.take_length] at ha
      simp (maxSteps := 2000000) [↓wSs, ↓wS, ↓wE, ↓wEs, ↓wAnd, ↓wOr, ↓wO, ↓wC, ↓wI, ↓slot, ↓asI, ↓asB, ↓asS, ↓asL, ↓items, ↓itemsL, ↓cop, ↓bop, ↓prim, at0, at1, at2, ↓tsS, ↓subS, ↓Ev.putIn, ↓sto, ↓dg, ↓fvE, ↓fvEs, ↓fvO, ↓fvI, ↓frp, ↓D.pure, ↓pureAll, ↓bindT, ↓tgl, ↓wipeS, ↓isTy, ↓D.eqOk, ↓D.isStr, ↓D.flat, ↓at_fn, ↓at_kw, ↓at_cs, b__law_is_sheet_1]
      rw [sq_yes he ha] at k
      exact k
end K02

set_option Elab.async false
set_option linter.all false
set_option maxRecDepth 100000
set_option maxHeartbeats 8000000
namespace K02
open PySem PySem.Spec PyProof.Rows L2 Ev

theorem sqP_rows {p : D → Bool} {d : D} (h : isSq p d = true) : ∃ xs, d = .tup xs ∧ xs ≠ [] ∧ ∀ x ∈ xs, ∃ ys, x = .tup ys ∧ ys.length = xs.length ∧ ys.all p = true := by
  cases d with
  | tup xs =>
    cases xs with
    | nil => simp [isSq] at h
    | cons x xs =>
      refine ⟨_, rfl, by simp, fun y hy => ?_⟩
      exact isR_tup (List.all_eq_true.mp h y hy)
  | _ => simp [isSq] at h
theorem isP_tup {d : D} (h : isP d = true) : ∃ qs, d = .tup qs := by
  cases d with
  | tup qs => exact ⟨qs, rfl⟩
  | _ => simp [isP] at h
theorem pure_lenP (d : D) : (lenP d).pure = true := by
  unfold lenP
  split <;> rfl
theorem pure_lenR (d : D) : (lenR d).pure = true := by
  unfold lenR
  split
  · exact pureAll_map pure_lenP _
  · rfl
theorem p_pattern_by : ∀ ds w K E, S_pattern_by ds w K E → ds.length = 1 ∧ wSs (TT.at 35) b_pattern_by (startS 3 ds) w { nx := fun _ w' => K .non 2 w', rt := K } E := by
  rintro ds w K E ⟨d, rfl, hv, hs, k⟩
  refine ⟨rfl, ?_⟩
  obtain ⟨xs, rfl, h0, hr⟩ := sqP_rows hs
  obtain ⟨hl, hx⟩ := od_items hv
  show wSs _ b_pattern_by [some (.tup xs, 0), none, none] _ _ _
  simp (maxSteps := 2000000) [↓wSs, ↓wS, ↓wE, ↓wEs, ↓wAnd, ↓wOr, ↓wO, ↓wC, ↓wI, ↓slot, ↓asI, ↓asB, ↓asS, ↓asL, ↓items, ↓itemsL, ↓cop, ↓bop, ↓prim, at0, at1, at2, ↓tsS, ↓subS, ↓Ev.putIn, ↓sto, ↓dg, ↓fvE, ↓fvEs, ↓fvO, ↓fvI, ↓frp, ↓D.pure, ↓pureAll, ↓bindT, ↓tgl, ↓wipeS, ↓isTy, ↓D.eqOk, ↓D.isStr, ↓D.flat, ↓at_fn, ↓at_kw, ↓at_cs, b_pattern_by]
  refine turns_map (g := lenR) (by omega) (fun i x acc N hxi hacc hN => ?_) ?_
  · have hxm := List.mem_of_getElem? hxi
    obtain ⟨ys, rfl, h1, h2⟩ := hr x hxm
    obtain ⟨hl2, hy⟩ := od_items (hx _ hxm)
    simp (maxSteps := 2000000) [↓wSs, ↓wS, ↓wE, ↓wEs, ↓wAnd, ↓wOr, ↓wO, ↓wC, ↓wI, ↓slot, ↓asI, ↓asB, ↓asS, ↓asL, ↓items, ↓itemsL, ↓cop, ↓bop, ↓prim, at0, at1, at2, ↓tsS, ↓subS, ↓Ev.putIn, ↓sto, ↓dg, ↓fvE, ↓fvEs, ↓fvO, ↓fvI, ↓frp, ↓D.pure, ↓pureAll, ↓bindT, ↓tgl, ↓wipeS, ↓isTy, ↓D.eqOk, ↓D.isStr, ↓D.flat, ↓at_fn, ↓at_kw, ↓at_cs, e_pattern_by_2]
    refine turns_map (g := lenP) (by omega) (fun j y acc2 N2 hyj hacc2 hN2 => ?_) ?_
    · obtain ⟨qs, rfl⟩ := isP_tup (List.all_eq_true.mp h2 y (List.mem_of_getElem? hyj))
      simp (maxSteps := 2000000) [↓wSs, ↓wS, ↓wE, ↓wEs, ↓wAnd, ↓wOr, ↓wO, ↓wC, ↓wI, ↓slot, ↓asI, ↓asB, ↓asS, ↓asL, ↓items, ↓itemsL, ↓cop, ↓bop, ↓prim, at0, at1, at2, ↓tsS, ↓subS, ↓Ev.putIn, ↓sto, ↓dg, ↓fvE, ↓fvEs, ↓fvO, ↓fvI, ↓frp, ↓D.pure, ↓pureAll, ↓bindT, ↓tgl, ↓wipeS, ↓isTy, ↓D.eqOk, ↓D.isStr, ↓D.flat, ↓at_fn, ↓at_kw, ↓at_cs, e_pattern_by_1, tcs, nil_t, eqn_t]
      cases qs with
      | nil =>
        rw [if_pos rfl]
        exact ⟨hacc2, hN2⟩
      | cons q qs =>
        rw [if_neg (by simp)]
        refine ⟨hacc2, ?_⟩
        have : lenP (.tup (q :: qs)) = .int (((q :: qs).length : Int) - 1) := rfl
        rw [this] at hN2
        exact hN2
    · have pl : pureAll (ys.map lenP) = true := pureAll_map pure_lenP ys
      simp (maxSteps := 2000000) [↓wSs, ↓wS, ↓wE, ↓wEs, ↓wAnd, ↓wOr, ↓wO, ↓wC, ↓wI, ↓slot, ↓asI, ↓asB, ↓asS, ↓asL, ↓items, ↓itemsL, ↓cop, ↓bop, ↓prim, at0, at1, at2, ↓tsS, ↓subS, ↓Ev.putIn, ↓sto, ↓dg, ↓fvE, ↓fvEs, ↓fvO, ↓fvI, ↓frp, ↓D.pure, ↓pureAll, ↓bindT, ↓tgl, ↓wipeS, ↓isTy, ↓D.eqOk, ↓D.isStr, ↓D.flat, ↓at_fn, ↓at_kw, ↓at_cs, pl]
      exact ⟨hacc, hN⟩
  · have pl : pureAll (xs.map lenR) = true := pureAll_map pure_lenR xs
    simp (maxSteps := 2000000) [↓wSs, ↓wS, ↓wE, ↓wEs, ↓wAnd, ↓wOr, ↓wO, ↓wC, ↓wI, ↓slot, ↓asI, ↓asB, ↓asS, ↓asL, ↓items, ↓itemsL, ↓cop, ↓bop, ↓prim, at0, at1, at2, ↓tsS, ↓subS, ↓Ev.putIn, ↓sto, ↓dg, ↓fvE, ↓fvEs, ↓fvO, ↓fvI, ↓frp, ↓D.pure, ↓pureAll, ↓bindT, ↓tgl, ↓wipeS, ↓isTy, ↓D.eqOk, ↓D.isStr, ↓D.flat, ↓at_fn, ↓at_kw, ↓at_cs, pl]
    exact k
theorem p__law_orders : ∀ ds w K E, S__law_orders ds w K E → ds.length = 1 ∧ wSs (TT.at 25) b__law_orders (startS 3 ds) w { nx := fun _ w' => K .non 2 w', rt := K } E := by
  rintro ds w K E ⟨d, rfl, hv, hs, k⟩
  refine ⟨rfl, ?_⟩
  obtain ⟨xs, rfl, h0, hr⟩ := sqP_rows hs
  obtain ⟨hl, hx⟩ := od_items hv
  show wSs _ b__law_orders [some (.tup xs, 0), none, none] _ _ _
  simp (maxSteps := 2000000) [↓wSs, ↓wS, ↓wE, ↓wEs, ↓wAnd, ↓wOr, ↓wO, ↓wC, ↓wI, ↓slot, ↓asI, ↓asB, ↓asS, ↓asL, ↓items, ↓itemsL, ↓cop, ↓bop, ↓prim, at0, at1, at2, ↓tsS, ↓subS, ↓Ev.putIn, ↓sto, ↓dg, ↓fvE, ↓fvEs, ↓fvO, ↓fvI, ↓frp, ↓D.pure, ↓pureAll, ↓bindT, ↓tgl, ↓wipeS, ↓isTy, ↓D.eqOk, ↓D.isStr, ↓D.flat, ↓at_fn, ↓at_kw, ↓at_cs, b__law_orders]
  refine turns_map (g := lenR) (by omega) (fun i x acc N hxi hacc hN => ?_) ?_
  · have hxm := List.mem_of_getElem? hxi
    obtain ⟨ys, rfl, h1, h2⟩ := hr x hxm
    obtain ⟨hl2, hy⟩ := od_items (hx _ hxm)
    simp (maxSteps := 2000000) [↓wSs, ↓wS, ↓wE, ↓wEs, ↓wAnd, ↓wOr, ↓wO, ↓wC, ↓wI, ↓slot, ↓asI, ↓asB, ↓asS, ↓asL, ↓items, ↓itemsL, ↓cop, ↓bop, ↓prim, at0, at1, at2, ↓tsS, ↓subS, ↓Ev.putIn, ↓sto, ↓dg, ↓fvE, ↓fvEs, ↓fvO, ↓fvI, ↓frp, ↓D.pure, ↓pureAll, ↓bindT, ↓tgl, ↓wipeS, ↓isTy, ↓D.eqOk, ↓D.isStr, ↓D.flat, ↓at_fn, ↓at_kw, ↓at_cs, e__law_orders_2]
    refine turns_map (g := lenP) (by omega) (fun j y acc2 N2 hyj hacc2 hN2 => ?_) ?_
    · obtain ⟨qs, rfl⟩ := isP_tup (List.all_eq_true.mp h2 y (List.mem_of_getElem? hyj))
      simp (maxSteps := 2000000) [↓wSs, ↓wS, ↓wE, ↓wEs, ↓wAnd, ↓wOr, ↓wO, ↓wC, ↓wI, ↓slot, ↓asI, ↓asB, ↓asS, ↓asL, ↓items, ↓itemsL, ↓cop, ↓bop, ↓prim, at0, at1, at2, ↓tsS, ↓subS, ↓Ev.putIn, ↓sto, ↓dg, ↓fvE, ↓fvEs, ↓fvO, ↓fvI, ↓frp, ↓D.pure, ↓pureAll, ↓bindT, ↓tgl, ↓wipeS, ↓isTy, ↓D.eqOk, ↓D.isStr, ↓D.flat, ↓at_fn, ↓at_kw, ↓at_cs, e__law_orders_1, tcs, nil_t, eqn_t]
      cases qs with
      | nil =>
        rw [if_pos rfl]
        exact ⟨hacc2, hN2⟩
      | cons q qs =>
        rw [if_neg (by simp)]
        refine ⟨hacc2, ?_⟩
        have : lenP (.tup (q :: qs)) = .int (((q :: qs).length : Int) - 1) := rfl
        rw [this] at hN2
        exact hN2
    · have pl : pureAll (ys.map lenP) = true := pureAll_map pure_lenP ys
      simp (maxSteps := 2000000) [↓wSs, ↓wS, ↓wE, ↓wEs, ↓wAnd, ↓wOr, ↓wO, ↓wC, ↓wI, ↓slot, ↓asI, ↓asB, ↓asS, ↓asL, ↓items, ↓itemsL, ↓cop, ↓bop, ↓prim, at0, at1, at2, ↓tsS, ↓subS, ↓Ev.putIn, ↓sto, ↓dg, ↓fvE, ↓fvEs, ↓fvO, ↓fvI, ↓frp, ↓D.pure, ↓pureAll, ↓bindT, ↓tgl, ↓wipeS, ↓isTy, ↓D.eqOk, ↓D.isStr, ↓D.flat, ↓at_fn, ↓at_kw, ↓at_cs, pl]
      exact ⟨hacc, hN⟩
  · have pl : pureAll (xs.map lenR) = true := pureAll_map pure_lenR xs
    simp (maxSteps := 2000000) [↓wSs, ↓wS, ↓wE, ↓wEs, ↓wAnd, ↓wOr, ↓wO, ↓wC, ↓wI, ↓slot, ↓asI, ↓asB, ↓asS, ↓asL, ↓items, ↓itemsL, ↓cop, ↓bop, ↓prim, at0, at1, at2, ↓tsS, ↓subS, ↓Ev.putIn, ↓sto, ↓dg, ↓fvE, ↓fvEs, ↓fvO, ↓fvI, ↓frp, ↓D.pure, ↓pureAll, ↓bindT, ↓tgl, ↓wipeS, ↓isTy, ↓D.eqOk, ↓D.isStr, ↓D.flat, ↓at_fn, ↓at_kw, ↓at_cs, pl]
    exact k
theorem p_pattern_of : ∀ ds w K E, S_pattern_of ds w K E → ds.length = 1 ∧ wSs (TT.at 36) b_pattern_of (startS 1 ds) w { nx := fun _ w' => K .non 2 w', rt := K } E := by
  rintro ds w K E ⟨d, rfl, hv, k, e⟩
  refine ⟨rfl, ?_⟩
  show wSs _ b_pattern_of [some (d, 0)] _ _ _
  simp (maxSteps := 2000000) [↓wSs, ↓wS, ↓wE, ↓wEs, ↓wAnd, ↓wOr, ↓wO, ↓wC, ↓wI, ↓slot, ↓asI, ↓asB, ↓asS, ↓asL, ↓items, ↓itemsL, ↓cop, ↓bop, ↓prim, at0, at1, at2, ↓tsS, ↓subS, ↓Ev.putIn, ↓sto, ↓dg, ↓fvE, ↓fvEs, ↓fvO, ↓fvI, ↓frp, ↓D.pure, ↓pureAll, ↓bindT, ↓tgl, ↓wipeS, ↓isTy, ↓D.eqOk, ↓D.isStr, ↓D.flat, ↓at_fn, ↓at_kw, ↓at_cs, b_pattern_of, ↓tf0, ↓tf1, ↓tf2, ↓tf3, ↓tf4, ↓tf5, ↓tf6, ↓tf7, ↓tf8, ↓tf9, ↓tf10, ↓tf11, ↓tf12, ↓tf13, ↓tf14, ↓tf15, ↓tf16, ↓tf17, ↓tf18, ↓tf19, ↓tf20, ↓tf21, ↓tf22, ↓tf23, ↓tf24, ↓tf25, ↓tf26, ↓tf27, ↓tf28, ↓tf29, ↓tf30, ↓tf31, ↓tf32, ↓tf33, ↓tf34, ↓tf35, ↓tf36, ↓tf37, ↓tf38, ↓tf39, ↓tf40, ↓tf41, ↓tf42, ↓tf43, ↓S_check_model]
  refine ⟨hv, fun h => ?_, e⟩
  simp (maxSteps := 2000000) [↓wSs, ↓wS, ↓wE, ↓wEs, ↓wAnd, ↓wOr, ↓wO, ↓wC, ↓wI, ↓slot, ↓asI, ↓asB, ↓asS, ↓asL, ↓items, ↓itemsL, ↓cop, ↓bop, ↓prim, at0, at1, at2, ↓tsS, ↓subS, ↓Ev.putIn, ↓sto, ↓dg, ↓fvE, ↓fvEs, ↓fvO, ↓fvI, ↓frp, ↓D.pure, ↓pureAll, ↓bindT, ↓tgl, ↓wipeS, ↓isTy, ↓D.eqOk, ↓D.isStr, ↓D.flat, ↓at_fn, ↓at_kw, ↓at_cs, b_pattern_of_1, ↓tf0, ↓tf1, ↓tf2, ↓tf3, ↓tf4, ↓tf5, ↓tf6, ↓tf7, ↓tf8, ↓tf9, ↓tf10, ↓tf11, ↓tf12, ↓tf13, ↓tf14, ↓tf15, ↓tf16, ↓tf17, ↓tf18, ↓tf19, ↓tf20, ↓tf21, ↓tf22, ↓tf23, ↓tf24, ↓tf25, ↓tf26, ↓tf27, ↓tf28, ↓tf29, ↓tf30, ↓tf31, ↓tf32, ↓tf33, ↓tf34, ↓tf35, ↓tf36, ↓tf37, ↓tf38, ↓tf39, ↓tf40, ↓tf41, ↓tf42, ↓tf43, ↓S_pattern_by]
  exact ⟨hv, h, k h⟩
theorem pure_ord (d : D) : (ordD d).pure = true := by
  unfold ordD
  split
  · exact pureAll_map pure_lenR _
  · rfl
theorem p__law_said : ∀ ds w K E, S__law_said ds w K E → ds.length = 1 ∧ wSs (TT.at 37) b__law_said (startS 2 ds) w { nx := fun _ w' => K .non 2 w', rt := K } E := by
  rintro ds w K E ⟨d, rfl, hv, k, e⟩
  refine ⟨rfl, ?_⟩
  show wSs _ b__law_said [some (d, 0), none] _ _ _
  simp (maxSteps := 2000000) [↓wSs, ↓wS, ↓wE, ↓wEs, ↓wAnd, ↓wOr, ↓wO, ↓wC, ↓wI, ↓slot, ↓asI, ↓asB, ↓asS, ↓asL, ↓items, ↓itemsL, ↓cop, ↓bop, ↓prim, at0, at1, at2, ↓tsS, ↓subS, ↓Ev.putIn, ↓sto, ↓dg, ↓fvE, ↓fvEs, ↓fvO, ↓fvI, ↓frp, ↓D.pure, ↓pureAll, ↓bindT, ↓tgl, ↓wipeS, ↓isTy, ↓D.eqOk, ↓D.isStr, ↓D.flat, ↓at_fn, ↓at_kw, ↓at_cs, b__law_said, b__law_said_1, ↓tf0, ↓tf1, ↓tf2, ↓tf3, ↓tf4, ↓tf5, ↓tf6, ↓tf7, ↓tf8, ↓tf9, ↓tf10, ↓tf11, ↓tf12, ↓tf13, ↓tf14, ↓tf15, ↓tf16, ↓tf17, ↓tf18, ↓tf19, ↓tf20, ↓tf21, ↓tf22, ↓tf23, ↓tf24, ↓tf25, ↓tf26, ↓tf27, ↓tf28, ↓tf29, ↓tf30, ↓tf31, ↓tf32, ↓tf33, ↓tf34, ↓tf35, ↓tf36, ↓tf37, ↓tf38, ↓tf39, ↓tf40, ↓tf41, ↓tf42, ↓tf43, ↓S_pattern_of, ter, tsub, tfl, hkR]
  refine ⟨hv, fun h => ?_, fun h => ?_⟩
  · exact k h
  · exact ⟨rfl, (if_pos (c := (TT.at 37).sub 0 0 = true) rfl).mpr ⟨rfl, e h⟩⟩
end K02

set_option Elab.async false
set_option linter.all false
set_option maxRecDepth 100000
set_option maxHeartbeats 8000000
namespace K02
open PySem PySem.Spec PyProof.Rows L2 Ev

/-! ### sizes -/
theorem obA_map {α : Type} {f : α → D} {t p M s : Nat} {l : List α} (n : Nat) (hn : l.length ≤ n) (h : ∀ a ∈ l, Ob t p M s (f a)) : ObA t p M (n * (s + 2)) (l.map f) := by
  have : ObA t p M (l.length * (s + 2)) (l.map f) := by
    clear hn
    induction l with
    | nil => exact .nil
    | cons a l ih =>
      have := ObA.cons (h a (by simp)) (ih fun b hb => h b (by simp [hb]))
      refine this.mono (Nat.le_refl _) (Nat.le_refl _) (Nat.le_refl _) ?_
      rw [List.length_cons, Nat.add_mul]
      omega
  exact this.mono (Nat.le_refl _) (Nat.le_refl _) (Nat.le_refl _) (Nat.mul_le_mul_right _ hn)
theorem ob_G {g : List (List (Option Nat))} (h : GrOk g) : Ob 4 4 1000000 10200 (ofG g) := by
  obtain ⟨h0, h1, h2⟩ := h
  have a : ∀ o : Option Nat, (∀ k, o = some k → k ≤ 9) → Ob 0 0 1000000 40 (ofO o) := fun o ho => by
    cases o with
    | none => exact ⟨rfl, rfl, Nat.zero_le _, Nat.zero_le _, Nat.zero_le _, by simp [ofO, D.sgn]⟩
    | some k =>
      have := ho k rfl
      exact int_ob (by omega) (by omega)
  have b : ∀ r ∈ g, Ob 1 1 1000000 172 (D.tup (r.map ofO)) := fun r hr => (obA_map 4 (by have := (h2 r hr).1; omega) fun o ho => a o ((h2 r hr).2 o ho)).tup
  exact (obA_map 4 h1 b).tup.mono (by omega) (by omega) (by omega) (by omega)
theorem ob_M {m : List (List (List Rat))} (h : ModOk m) : Ob 4 4 1000000 24500 (ofM m) := by
  obtain ⟨h0, h1, h2⟩ := h
  have a : ∀ q : Rat, Sm q → Ob 1 1 1000000 88 (ofQ q) := fun q hq => by
    have q1 := int_ob (i := q.num) (M := 1000000) hq.1 (by omega)
    have q2 := int_ob (i := (q.den : Nat)) (M := 1000000) (by rw [Int.natAbs_natCast]; exact hq.2) (by omega)
    exact (ObA.cons q1 (ObA.cons (s := 0) q2 .nil)).tup.mono (by omega) (by omega) (by omega) (by omega)
  have b : ∀ p : List Rat, PolyOk p → Ob 2 2 1000000 904 (ofP p) := fun p hp => (obA_map 10 hp.1 fun q hq => a q (hp.2.2 q hq)).tup.mono (by omega) (by omega) (by omega) (by omega)
  have c : ∀ r ∈ m, Ob 3 3 1000000 3628 (ofR r) := fun r hr => (obA_map 4 (by have := (h2 r hr).1; omega) fun p hp => b p ((h2 r hr).2 p hp)).tup.mono (by omega) (by omega) (by omega) (by omega)
  exact (obA_map 4 h1 c).tup.mono (by omega) (by omega) (by omega) (by omega)
theorem sgn_pos (d : D) : 4 ≤ d.sgn := by
  cases d <;> simp only [D.sgn] <;> first | omega | (split <;> omega)
theorem sgn_lenP {d : D} (h : Od d) : (lenP d).sgn + 2 ≤ 5 * (d.sgn + 2) := by
  have s4 := sgn_pos d
  unfold lenP
  split
  · simp only [D.sgn]; omega
  · rename_i ds _
    have l := (od_items h).1
    have : ((ds.length : Int) - 1).natAbs.log2 < 20 := by
      by_cases z : ((ds.length : Int) - 1).natAbs = 0
      · rw [z]; decide
      · exact (Nat.log2_lt z).mpr (by omega)
    have e : (D.int ((ds.length : Int) - 1)).sgn ≤ 24 := by
      simp only [D.sgn]
      rw [if_pos (by omega)]
      omega
    omega
  · simp only [D.sgn]; omega
theorem sgn_maps {f : D → D} : ∀ {ds : List D}, (∀ d ∈ ds, (f d).sgn + 2 ≤ 5 * (d.sgn + 2)) → sgnAll (ds.map f) ≤ 5 * sgnAll ds
  | [], _ => by simp [sgnAll]
  | d :: ds, h => by
    have := sgn_maps fun x hx => h x (List.mem_cons_of_mem d hx)
    have := h d (by simp)
    simp only [List.map_cons, sgnAll]
    omega
theorem sgn_lenR {d : D} (h : Od d) : (lenR d).sgn + 2 ≤ 5 * (d.sgn + 2) := by
  have s4 := sgn_pos d
  unfold lenR
  split
  · rename_i ys
    have : sgnAll (ys.map lenP) ≤ 5 * sgnAll ys := sgn_maps fun x hx => sgn_lenP ((od_items h).2 x hx)
    simp only [D.sgn]
    omega
  · simp only [D.sgn]; omega
theorem rp_ord {d : D} (h : Od d) : (D.tup [.str "told", ordD d]).rpOk := by
  have s4 := sgn_pos d
  have dl : ∀ x : D, (lenP x).dat = true ∧ (lenP x).dep ≤ 0 := fun x => by
    unfold lenP
    split <;> exact ⟨rfl, Nat.le_refl _⟩
  have dr : ∀ x : D, (lenR x).dat = true ∧ (lenR x).dep ≤ 1 := fun x => by
    unfold lenR
    split
    · exact dat_map (f := lenP) (n := 0) fun a _ => dl a
    · exact ⟨rfl, Nat.zero_le _⟩
  have dd : (ordD d).dat = true ∧ (ordD d).dep ≤ 2 := by
    unfold ordD
    split
    · exact dat_map (f := lenR) (n := 1) fun a _ => dr a
    · exact ⟨rfl, Nat.zero_le _⟩
  have ss : (ordD d).sgn ≤ 5 * (d.sgn + 2) := by
    unfold ordD
    split
    · rename_i rs
      have : sgnAll (rs.map lenR) ≤ 5 * sgnAll rs := sgn_maps fun x hx => sgn_lenR ((od_items h).2 x hx)
      simp only [D.sgn]
      omega
    · simp only [D.sgn]; omega
  have hs := h.s
  refine ⟨rdt_of_dat _ (by simp [D.dat, datAll, dd.1]; decide +kernel), by simp only [D.dep, depAll]; omega, ?_⟩
  have e : (D.str ("told" : Str)).sgn = 44 := rfl
  simp only [D.sgn, sgnAll] at *
  omega
theorem rp_ref {d : D} (h : Od d) : (D.tup [.str "refused", d]).rpOk := by
  have h1 := h.r
  have h2 := h.p
  have h3 := h.s
  refine ⟨by simp [D.rdt, rdtAll, h1]; decide +kernel, by simp only [D.dep, depAll]; omega, ?_⟩
  have e : (D.str ("refused" : Str)).sgn = 74 := rfl
  simp only [D.sgn, sgnAll] at *
  omega
theorem rp2 (b c : Bool) : (D.lst [.bl b, .bl c]).rpOk := by
  refine ⟨by simp [D.rdt, rdtAll], by simp [D.dep, depAll], ?_⟩
  cases b <;> cases c <;> simp [D.sgn, sgnAll]
theorem ite_any {α : Type} {c : Prop} {i : Decidable c} {a b : α} {p : α → Prop} (ha : p a) (hb : p b) : p (@ite α c i a b) := by cases i <;> assumption
/-- one thing -/
theorem right_6 (x1 x4 x5 : Option (D × Nat)) (L : List D) (d : D) (w : Wl) (E : XQ) (P : Po) (hd : Od d) (hw : Wk w)
    (hN : ∀ x4 x5, P.nx [some (.wel, 0), x1, some (.lst L, 0), some (d, 0), x4, x5] w) :
    wSs (TT.at 41) b__law_right_6 [some (.wel, 0), x1, some (.lst L, 0), some (d, 0), x4, x5] w P E := by
  have eqs := Ev.eq_str (PyData.shown (D.lst [D.bl (isSq isE d), D.bl (isSq isP d)]).py)
  simp (maxSteps := 2000000) [↓wSs, ↓wS, ↓wE, ↓wEs, ↓wAnd, ↓wOr, ↓wO, ↓wC, ↓wI, ↓slot, ↓asI, ↓asB, ↓asS, ↓asL, ↓items, ↓itemsL, ↓cop, ↓bop, ↓prim, at0, at1, at2, ↓tsS, ↓subS, ↓Ev.putIn, ↓sto, ↓dg, ↓fvE, ↓fvEs, ↓fvO, ↓fvI, ↓frp, ↓D.pure, ↓pureAll, ↓bindT, ↓tgl, ↓wipeS, ↓isTy, ↓D.eqOk, ↓D.isStr, ↓D.flat, ↓at_fn, ↓at_kw, ↓at_cs, b__law_right_6, ↓tf0, ↓tf1, ↓tf2, ↓tf3, ↓tf4, ↓tf5, ↓tf6, ↓tf7, ↓tf8, ↓tf9, ↓tf10, ↓tf11, ↓tf12, ↓tf13, ↓tf14, ↓tf15, ↓tf16, ↓tf17, ↓tf18, ↓tf19, ↓tf20, ↓tf21, ↓tf22, ↓tf23, ↓tf24, ↓tf25, ↓tf26, ↓tf27, ↓tf28, ↓tf29, ↓tf30, ↓tf31, ↓tf32, ↓tf33, ↓tf34, ↓tf35, ↓tf36, ↓tf37, ↓tf38, ↓tf39, ↓tf40, ↓tf41, ↓tf42, ↓tf43, ↓S__law_is_grid, ↓S__law_is_sheet, ↓S_is_patterned, ↓S_is_modelled, hd]
  simp (maxSteps := 2000000) [↓wSs, ↓wS, ↓wE, ↓wEs, ↓wAnd, ↓wOr, ↓wO, ↓wC, ↓wI, ↓slot, ↓asI, ↓asB, ↓asS, ↓asL, ↓items, ↓itemsL, ↓cop, ↓bop, ↓prim, at0, at1, at2, ↓tsS, ↓subS, ↓Ev.putIn, ↓sto, ↓dg, ↓fvE, ↓fvEs, ↓fvO, ↓fvI, ↓frp, ↓D.pure, ↓pureAll, ↓bindT, ↓tgl, ↓wipeS, ↓isTy, ↓D.eqOk, ↓D.isStr, ↓D.flat, ↓at_fn, ↓at_kw, ↓at_cs, b__law_right_5, ↓tf0, ↓tf1, ↓tf2, ↓tf3, ↓tf4, ↓tf5, ↓tf6, ↓tf7, ↓tf8, ↓tf9, ↓tf10, ↓tf11, ↓tf12, ↓tf13, ↓tf14, ↓tf15, ↓tf16, ↓tf17, ↓tf18, ↓tf19, ↓tf20, ↓tf21, ↓tf22, ↓tf23, ↓tf24, ↓tf25, ↓tf26, ↓tf27, ↓tf28, ↓tf29, ↓tf30, ↓tf31, ↓tf32, ↓tf33, ↓tf34, ↓tf35, ↓tf36, ↓tf37, ↓tf38, ↓tf39, ↓tf40, ↓tf41, ↓tf42, ↓tf43, ↓S_is_pattern, ↓S_is_model, ↓S_is_patterned, ↓S_is_modelled, hd, rp2, eqs]
  simp (maxSteps := 2000000) [↓wSs, ↓wS, ↓wE, ↓wEs, ↓wAnd, ↓wOr, ↓wO, ↓wC, ↓wI, ↓slot, ↓asI, ↓asB, ↓asS, ↓asL, ↓items, ↓itemsL, ↓cop, ↓bop, ↓prim, at0, at1, at2, ↓tsS, ↓subS, ↓Ev.putIn, ↓sto, ↓dg, ↓fvE, ↓fvEs, ↓fvO, ↓fvI, ↓frp, ↓D.pure, ↓pureAll, ↓bindT, ↓tgl, ↓wipeS, ↓isTy, ↓D.eqOk, ↓D.isStr, ↓D.flat, ↓at_fn, ↓at_kw, ↓at_cs, b__law_right_4]
  refine ⟨d, rfl, hd, d, rfl, hd, rp2 _ _, rp2 _ _, ?_⟩
  rw [if_pos eqs]
  cases h : isSq isP d with
  | true =>
    have eqo := Ev.eq_str (PyData.shown (D.tup [.str "told", ordD d]).py)
    simp (maxSteps := 2000000) [↓wSs, ↓wS, ↓wE, ↓wEs, ↓wAnd, ↓wOr, ↓wO, ↓wC, ↓wI, ↓slot, ↓asI, ↓asB, ↓asS, ↓asL, ↓items, ↓itemsL, ↓cop, ↓bop, ↓prim, at0, at1, at2, ↓tsS, ↓subS, ↓Ev.putIn, ↓sto, ↓dg, ↓fvE, ↓fvEs, ↓fvO, ↓fvI, ↓frp, ↓D.pure, ↓pureAll, ↓bindT, ↓tgl, ↓wipeS, ↓isTy, ↓D.eqOk, ↓D.isStr, ↓D.flat, ↓at_fn, ↓at_kw, ↓at_cs, b__law_right_3, ↓tf0, ↓tf1, ↓tf2, ↓tf3, ↓tf4, ↓tf5, ↓tf6, ↓tf7, ↓tf8, ↓tf9, ↓tf10, ↓tf11, ↓tf12, ↓tf13, ↓tf14, ↓tf15, ↓tf16, ↓tf17, ↓tf18, ↓tf19, ↓tf20, ↓tf21, ↓tf22, ↓tf23, ↓tf24, ↓tf25, ↓tf26, ↓tf27, ↓tf28, ↓tf29, ↓tf30, ↓tf31, ↓tf32, ↓tf33, ↓tf34, ↓tf35, ↓tf36, ↓tf37, ↓tf38, ↓tf39, ↓tf40, ↓tf41, ↓tf42, ↓tf43, ↓S__law_orders, ↓S_pattern_by, hd, h, pure_ord]
    simp (maxSteps := 2000000) [↓wSs, ↓wS, ↓wE, ↓wEs, ↓wAnd, ↓wOr, ↓wO, ↓wC, ↓wI, ↓slot, ↓asI, ↓asB, ↓asS, ↓asL, ↓items, ↓itemsL, ↓cop, ↓bop, ↓prim, at0, at1, at2, ↓tsS, ↓subS, ↓Ev.putIn, ↓sto, ↓dg, ↓fvE, ↓fvEs, ↓fvO, ↓fvI, ↓frp, ↓D.pure, ↓pureAll, ↓bindT, ↓tgl, ↓wipeS, ↓isTy, ↓D.eqOk, ↓D.isStr, ↓D.flat, ↓at_fn, ↓at_kw, ↓at_cs, b__law_right_2, ↓tf0, ↓tf1, ↓tf2, ↓tf3, ↓tf4, ↓tf5, ↓tf6, ↓tf7, ↓tf8, ↓tf9, ↓tf10, ↓tf11, ↓tf12, ↓tf13, ↓tf14, ↓tf15, ↓tf16, ↓tf17, ↓tf18, ↓tf19, ↓tf20, ↓tf21, ↓tf22, ↓tf23, ↓tf24, ↓tf25, ↓tf26, ↓tf27, ↓tf28, ↓tf29, ↓tf30, ↓tf31, ↓tf32, ↓tf33, ↓tf34, ↓tf35, ↓tf36, ↓tf37, ↓tf38, ↓tf39, ↓tf40, ↓tf41, ↓tf42, ↓tf43, ↓S__law_said, hd, h, rp_ord hd, eqo]
    exact hN _ _
  | false =>
    have eqo := Ev.eq_str (PyData.shown (D.tup [.str "refused", d]).py)
    simp (maxSteps := 2000000) [↓wSs, ↓wS, ↓wE, ↓wEs, ↓wAnd, ↓wOr, ↓wO, ↓wC, ↓wI, ↓slot, ↓asI, ↓asB, ↓asS, ↓asL, ↓items, ↓itemsL, ↓cop, ↓bop, ↓prim, at0, at1, at2, ↓tsS, ↓subS, ↓Ev.putIn, ↓sto, ↓dg, ↓fvE, ↓fvEs, ↓fvO, ↓fvI, ↓frp, ↓D.pure, ↓pureAll, ↓bindT, ↓tgl, ↓wipeS, ↓isTy, ↓D.eqOk, ↓D.isStr, ↓D.flat, ↓at_fn, ↓at_kw, ↓at_cs, b__law_right_3, hd, h]
    have main : ∀ o q, wSs (TT.at 41) b__law_right_2 [some (.wel, 0), x1, some (.lst L, 0), some (d, 0), some (.lst [.bl (isSq isE d), .bl false], o), some (.tup [.str "refused", d], q)] w P E := fun o q => by
      simp (maxSteps := 2000000) [↓wSs, ↓wS, ↓wE, ↓wEs, ↓wAnd, ↓wOr, ↓wO, ↓wC, ↓wI, ↓slot, ↓asI, ↓asB, ↓asS, ↓asL, ↓items, ↓itemsL, ↓cop, ↓bop, ↓prim, at0, at1, at2, ↓tsS, ↓subS, ↓Ev.putIn, ↓sto, ↓dg, ↓fvE, ↓fvEs, ↓fvO, ↓fvI, ↓frp, ↓D.pure, ↓pureAll, ↓bindT, ↓tgl, ↓wipeS, ↓isTy, ↓D.eqOk, ↓D.isStr, ↓D.flat, ↓at_fn, ↓at_kw, ↓at_cs, b__law_right_2, ↓tf0, ↓tf1, ↓tf2, ↓tf3, ↓tf4, ↓tf5, ↓tf6, ↓tf7, ↓tf8, ↓tf9, ↓tf10, ↓tf11, ↓tf12, ↓tf13, ↓tf14, ↓tf15, ↓tf16, ↓tf17, ↓tf18, ↓tf19, ↓tf20, ↓tf21, ↓tf22, ↓tf23, ↓tf24, ↓tf25, ↓tf26, ↓tf27, ↓tf28, ↓tf29, ↓tf30, ↓tf31, ↓tf32, ↓tf33, ↓tf34, ↓tf35, ↓tf36, ↓tf37, ↓tf38, ↓tf39, ↓tf40, ↓tf41, ↓tf42, ↓tf43, ↓S__law_said, hd, h, rp_ref hd, eqo]
      exact hN _ _
    exact ite_any (p := fun ρ => wSs _ _ ρ _ _ _) (main _ _) (main _ _)
theorem right_7 (x1 : Option (D × Nat)) (L : List D) (o : Nat) (w : Wl) (K : KE) (E : XQ) (hL : ∀ x ∈ L, Od x) (hw : Wk w) (k : ∀ w', Wk w' → K (.bl true) 2 w') :
    wSs (TT.at 41) b__law_right_7 [some (.wel, 0), x1, some (.lst L, o), none, none, none] w { nx := fun _ w' => K .non 2 w', rt := K } E := by
  simp (maxSteps := 2000000) [↓wSs, ↓wS, ↓wE, ↓wEs, ↓wAnd, ↓wOr, ↓wO, ↓wC, ↓wI, ↓slot, ↓asI, ↓asB, ↓asS, ↓asL, ↓items, ↓itemsL, ↓cop, ↓bop, ↓prim, at0, at1, at2, ↓tsS, ↓subS, ↓Ev.putIn, ↓sto, ↓dg, ↓fvE, ↓fvEs, ↓fvO, ↓fvI, ↓frp, ↓D.pure, ↓pureAll, ↓bindT, ↓tgl, ↓wipeS, ↓isTy, ↓D.eqOk, ↓D.isStr, ↓D.flat, ↓at_fn, ↓at_kw, ↓at_cs, b__law_right_7]
  refine forS_from (fun i ρ w' => w' = w ∧ ∃ (x3 x4 x5 : Option (D × Nat)), ρ = [some (.wel, 0), x1, some (.lst L, 0), x3, x4, x5]) ⟨rfl, _, _, _, rfl⟩ ?_ ?_
  · rintro i x ρ w' N hx ⟨rfl, x3, x4, x5, rfl⟩ hN
    exact right_6 x1 x4 x5 L x w' E _ (hL x (List.mem_of_getElem? hx)) hw fun x4 x5 => hN _ _ ⟨rfl, _, _, _, rfl⟩
  · rintro ρ w' ⟨rfl, x3, x4, x5, rfl⟩
    simp (maxSteps := 2000000) [↓wSs, ↓wS, ↓wE, ↓wEs, ↓wAnd, ↓wOr, ↓wO, ↓wC, ↓wI, ↓slot, ↓asI, ↓asB, ↓asS, ↓asL, ↓items, ↓itemsL, ↓cop, ↓bop, ↓prim, at0, at1, at2, ↓tsS, ↓subS, ↓Ev.putIn, ↓sto, ↓dg, ↓fvE, ↓fvEs, ↓fvO, ↓fvI, ↓frp, ↓D.pure, ↓pureAll, ↓bindT, ↓tgl, ↓wipeS, ↓isTy, ↓D.eqOk, ↓D.isStr, ↓D.flat, ↓at_fn, ↓at_kw, ↓at_cs, b__law_right_1]
    exact k _ hw
theorem Ob.od {t p M s : Nat} {d : D} (h : Ob t p M s d) (h1 : t ≤ 100) (h2 : p ≤ 50) (h3 : M ≤ 1000000000) (h4 : s ≤ 1000000) : Od d := h.mono h1 h2 h3 h4
theorem right_8 (x1 : Option (D × Nat)) (L : List D) (o : Nat) (w : Wl) (K : KE) (E : XQ) (ho : 1 ≤ o) (hl : L.length ≤ 100) (hL : ∀ x ∈ L, Od x) (hw : Wk w) (k : ∀ w', Wk w' → K (.bl true) 2 w') :
    wSs (TT.at 41) b__law_right_8 [some (.wel, 0), x1, some (.lst L, o), none, none, none] w { nx := fun _ w' => K .non 2 w', rt := K } E := by
  simp (maxSteps := 2000000) [↓wSs, ↓wS, ↓wE, ↓wEs, ↓wAnd, ↓wOr, ↓wO, ↓wC, ↓wI, ↓slot, ↓asI, ↓asB, ↓asS, ↓asL, ↓items, ↓itemsL, ↓cop, ↓bop, ↓prim, at0, at1, at2, ↓tsS, ↓subS, ↓Ev.putIn, ↓sto, ↓dg, ↓fvE, ↓fvEs, ↓fvO, ↓fvI, ↓frp, ↓D.pure, ↓pureAll, ↓bindT, ↓tgl, ↓wipeS, ↓isTy, ↓D.eqOk, ↓D.isStr, ↓D.flat, ↓at_fn, ↓at_kw, ↓at_cs, b__law_right_8, ↓tf0, ↓tf1, ↓tf2, ↓tf3, ↓tf4, ↓tf5, ↓tf6, ↓tf7, ↓tf8, ↓tf9, ↓tf10, ↓tf11, ↓tf12, ↓tf13, ↓tf14, ↓tf15, ↓tf16, ↓tf17, ↓tf18, ↓tf19, ↓tf20, ↓tf21, ↓tf22, ↓tf23, ↓tf24, ↓tf25, ↓tf26, ↓tf27, ↓tf28, ↓tf29, ↓tf30, ↓tf31, ↓tf32, ↓tf33, ↓tf34, ↓tf35, ↓tf36, ↓tf37, ↓tf38, ↓tf39, ↓tf40, ↓tf41, ↓tf42, ↓tf43, ↓S__law_odd]
  refine ⟨ho, hw, fun d fr w' hd hw' => ⟨by omega, ?_⟩⟩
  have main : ∀ o, wSs (TT.at 41) b__law_right_7 [some (.wel, 0), x1, some (.lst (L ++ [d]), o), none, none, none] w' { nx := fun _ w' => K .non 2 w', rt := K } E := fun o =>
    right_7 x1 (L ++ [d]) o w' K E (fun x hx => snoc_mem hL (hd.od (by omega) (by omega) (by omega) (by omega)) hx) hw' k
  exact ite2 (fun _ => main _) fun _ => main _
theorem right_9 (x1 : Option (D × Nat)) (L : List D) (a b : D) (o : Nat) (w : Wl) (K : KE) (E : XQ) (ho : 1 ≤ o) (hl : L.length ≤ 50) (hL : ∀ x ∈ a :: b :: L, Od x) (hb : Ob 4 4 1000000 24500 b) (pb : b.pure = true) (hw : Wk w) (k : ∀ w', Wk w' → K (.bl true) 2 w') :
    wSs (TT.at 41) b__law_right_9 [some (.wel, 0), x1, some (.lst (a :: b :: L), o), none, none, none] w { nx := fun _ w' => K .non 2 w', rt := K } E := by
  simp (maxSteps := 2000000) [↓wSs, ↓wS, ↓wE, ↓wEs, ↓wAnd, ↓wOr, ↓wO, ↓wC, ↓wI, ↓slot, ↓asI, ↓asB, ↓asS, ↓asL, ↓items, ↓itemsL, ↓cop, ↓bop, ↓prim, at0, at1, at2, ↓tsS, ↓subS, ↓Ev.putIn, ↓sto, ↓dg, ↓fvE, ↓fvEs, ↓fvO, ↓fvI, ↓frp, ↓D.pure, ↓pureAll, ↓bindT, ↓tgl, ↓wipeS, ↓isTy, ↓D.eqOk, ↓D.isStr, ↓D.flat, ↓at_fn, ↓at_kw, ↓at_cs, b__law_right_9, ↓tf0, ↓tf1, ↓tf2, ↓tf3, ↓tf4, ↓tf5, ↓tf6, ↓tf7, ↓tf8, ↓tf9, ↓tf10, ↓tf11, ↓tf12, ↓tf13, ↓tf14, ↓tf15, ↓tf16, ↓tf17, ↓tf18, ↓tf19, ↓tf20, ↓tf21, ↓tf22, ↓tf23, ↓tf24, ↓tf25, ↓tf26, ↓tf27, ↓tf28, ↓tf29, ↓tf30, ↓tf31, ↓tf32, ↓tf33, ↓tf34, ↓tf35, ↓tf36, ↓tf37, ↓tf38, ↓tf39, ↓tf40, ↓tf41, ↓tf42, ↓tf43, ↓S__law_bent_L10, ↓S_bent, pb]
  refine ⟨ho, 4, 4, 1000000, 24500, hb, by omega, by omega, by omega, by omega, hw, fun d1 w1 hd1 hw1 => ⟨_, _, _, _, hd1, by omega, by omega, by omega, by omega, hw1, fun d fr w' hd hw' => ⟨by omega, ?_⟩⟩⟩
  have hL' : ∀ x ∈ a :: b :: (L ++ [d]), Od x := fun x hx => snoc_mem (l := a :: b :: L) hL (hd.od (by omega) (by omega) (by omega) (by omega)) hx
  have ll : (a :: b :: (L ++ [d])).length ≤ 100 := by simp; omega
  exact ite2 (fun _ => right_8 x1 _ _ w' K E ho ll hL' hw' k) fun _ => right_8 x1 _ _ w' K E (by omega) ll hL' hw' k
theorem right_10 (x1 : Option (D × Nat)) (L : List D) (a b : D) (o : Nat) (w : Wl) (K : KE) (E : XQ) (ho : 1 ≤ o) (hl : L.length ≤ 40) (hL : ∀ x ∈ a :: b :: L, Od x) (hb : Ob 4 4 1000000 24500 b) (pb : b.pure = true) (hw : Wk w) (k : ∀ w', Wk w' → K (.bl true) 2 w') :
    wSs (TT.at 41) b__law_right_10 [some (.wel, 0), x1, some (.lst (a :: b :: L), o), none, none, none] w { nx := fun _ w' => K .non 2 w', rt := K } E := by
  simp (maxSteps := 2000000) [↓wSs, ↓wS, ↓wE, ↓wEs, ↓wAnd, ↓wOr, ↓wO, ↓wC, ↓wI, ↓slot, ↓asI, ↓asB, ↓asS, ↓asL, ↓items, ↓itemsL, ↓cop, ↓bop, ↓prim, at0, at1, at2, ↓tsS, ↓subS, ↓Ev.putIn, ↓sto, ↓dg, ↓fvE, ↓fvEs, ↓fvO, ↓fvI, ↓frp, ↓D.pure, ↓pureAll, ↓bindT, ↓tgl, ↓wipeS, ↓isTy, ↓D.eqOk, ↓D.isStr, ↓D.flat, ↓at_fn, ↓at_kw, ↓at_cs, b__law_right_10, ↓tf0, ↓tf1, ↓tf2, ↓tf3, ↓tf4, ↓tf5, ↓tf6, ↓tf7, ↓tf8, ↓tf9, ↓tf10, ↓tf11, ↓tf12, ↓tf13, ↓tf14, ↓tf15, ↓tf16, ↓tf17, ↓tf18, ↓tf19, ↓tf20, ↓tf21, ↓tf22, ↓tf23, ↓tf24, ↓tf25, ↓tf26, ↓tf27, ↓tf28, ↓tf29, ↓tf30, ↓tf31, ↓tf32, ↓tf33, ↓tf34, ↓tf35, ↓tf36, ↓tf37, ↓tf38, ↓tf39, ↓tf40, ↓tf41, ↓tf42, ↓tf43, ↓S__law_bent_L10, ↓S_bent, pb]
  refine ⟨ho, 4, 4, 1000000, 24500, hb, by omega, by omega, by omega, by omega, hw, fun d fr w' hd hw' => ⟨by omega, ?_⟩⟩
  have hL' : ∀ x ∈ a :: b :: (L ++ [d]), Od x := fun x hx => snoc_mem (l := a :: b :: L) hL (hd.od (by omega) (by omega) (by omega) (by omega)) hx
  have ll : (L ++ [d]).length ≤ 50 := by simp; omega
  exact ite2 (fun _ => right_9 x1 _ a b _ w' K E ho ll hL' hb pb hw' k) fun _ => right_9 x1 _ a b _ w' K E (by omega) ll hL' hb pb hw' k
theorem p__law_right : ∀ ds w K E, S__law_right ds w K E → ds.length = 1 ∧ wSs (TT.at 41) b__law_right (startS 6 ds) w { nx := fun _ w' => K .non 2 w', rt := K } E := by
  rintro ds w K E ⟨rfl, hw, k⟩
  refine ⟨rfl, ?_⟩
  show wSs _ b__law_right [some (.wel, 0), none, none, none, none, none] _ _ _
  simp (maxSteps := 2000000) [↓wSs, ↓wS, ↓wE, ↓wEs, ↓wAnd, ↓wOr, ↓wO, ↓wC, ↓wI, ↓slot, ↓asI, ↓asB, ↓asS, ↓asL, ↓items, ↓itemsL, ↓cop, ↓bop, ↓prim, at0, at1, at2, ↓tsS, ↓subS, ↓Ev.putIn, ↓sto, ↓dg, ↓fvE, ↓fvEs, ↓fvO, ↓fvI, ↓frp, ↓D.pure, ↓pureAll, ↓bindT, ↓tgl, ↓wipeS, ↓isTy, ↓D.eqOk, ↓D.isStr, ↓D.flat, ↓at_fn, ↓at_kw, ↓at_cs, b__law_right, ↓tf0, ↓tf1, ↓tf2, ↓tf3, ↓tf4, ↓tf5, ↓tf6, ↓tf7, ↓tf8, ↓tf9, ↓tf10, ↓tf11, ↓tf12, ↓tf13, ↓tf14, ↓tf15, ↓tf16, ↓tf17, ↓tf18, ↓tf19, ↓tf20, ↓tf21, ↓tf22, ↓tf23, ↓tf24, ↓tf25, ↓tf26, ↓tf27, ↓tf28, ↓tf29, ↓tf30, ↓tf31, ↓tf32, ↓tf33, ↓tf34, ↓tf35, ↓tf36, ↓tf37, ↓tf38, ↓tf39, ↓tf40, ↓tf41, ↓tf42, ↓tf43]
  refine ⟨3, rfl, .inl rfl, hw, fun g w1 hg hw1 => ?_⟩
  have pg : (ofG g).pure = true := by
    unfold ofG
    simp only [D.pure]
    exact pureAll_map (fun r => by simp only [D.pure]; exact pureAll_map pure_O r) g
  simp (maxSteps := 2000000) [↓wSs, ↓wS, ↓wE, ↓wEs, ↓wAnd, ↓wOr, ↓wO, ↓wC, ↓wI, ↓slot, ↓asI, ↓asB, ↓asS, ↓asL, ↓items, ↓itemsL, ↓cop, ↓bop, ↓prim, at0, at1, at2, ↓tsS, ↓subS, ↓Ev.putIn, ↓sto, ↓dg, ↓fvE, ↓fvEs, ↓fvO, ↓fvI, ↓frp, ↓D.pure, ↓pureAll, ↓bindT, ↓tgl, ↓wipeS, ↓isTy, ↓D.eqOk, ↓D.isStr, ↓D.flat, ↓at_fn, ↓at_kw, ↓at_cs, b__law_right_12, ↓tf0, ↓tf1, ↓tf2, ↓tf3, ↓tf4, ↓tf5, ↓tf6, ↓tf7, ↓tf8, ↓tf9, ↓tf10, ↓tf11, ↓tf12, ↓tf13, ↓tf14, ↓tf15, ↓tf16, ↓tf17, ↓tf18, ↓tf19, ↓tf20, ↓tf21, ↓tf22, ↓tf23, ↓tf24, ↓tf25, ↓tf26, ↓tf27, ↓tf28, ↓tf29, ↓tf30, ↓tf31, ↓tf32, ↓tf33, ↓tf34, ↓tf35, ↓tf36, ↓tf37, ↓tf38, ↓tf39, ↓tf40, ↓tf41, ↓tf42, ↓tf43, ↓S__law_sheet, pg, pure_M]
  refine ⟨g, rfl, hg, hw1, fun m w2 hm hw2 => ?_⟩
  have og := ob_G hg
  have om := ob_M hm
  have pm := pure_M m
  simp (maxSteps := 2000000) [↓wSs, ↓wS, ↓wE, ↓wEs, ↓wAnd, ↓wOr, ↓wO, ↓wC, ↓wI, ↓slot, ↓asI, ↓asB, ↓asS, ↓asL, ↓items, ↓itemsL, ↓cop, ↓bop, ↓prim, at0, at1, at2, ↓tsS, ↓subS, ↓Ev.putIn, ↓sto, ↓dg, ↓fvE, ↓fvEs, ↓fvO, ↓fvI, ↓frp, ↓D.pure, ↓pureAll, ↓bindT, ↓tgl, ↓wipeS, ↓isTy, ↓D.eqOk, ↓D.isStr, ↓D.flat, ↓at_fn, ↓at_kw, ↓at_cs, b__law_right_11, ↓tf0, ↓tf1, ↓tf2, ↓tf3, ↓tf4, ↓tf5, ↓tf6, ↓tf7, ↓tf8, ↓tf9, ↓tf10, ↓tf11, ↓tf12, ↓tf13, ↓tf14, ↓tf15, ↓tf16, ↓tf17, ↓tf18, ↓tf19, ↓tf20, ↓tf21, ↓tf22, ↓tf23, ↓tf24, ↓tf25, ↓tf26, ↓tf27, ↓tf28, ↓tf29, ↓tf30, ↓tf31, ↓tf32, ↓tf33, ↓tf34, ↓tf35, ↓tf36, ↓tf37, ↓tf38, ↓tf39, ↓tf40, ↓tf41, ↓tf42, ↓tf43, ↓S__law_bent_L10, ↓S_bent, pg, pm]
  refine ⟨4, 4, 1000000, 10200, og, by omega, by omega, by omega, by omega, hw2, fun d fr w' hd hw' => ?_⟩
  have hL' : ∀ x ∈ [ofG g, ofM m, d], Od x := fun x hx => by
    simp only [List.mem_cons, List.not_mem_nil, or_false] at hx
    rcases hx with rfl | rfl | rfl
    · exact og.od (by omega) (by omega) (by omega) (by omega)
    · exact om.od (by omega) (by omega) (by omega) (by omega)
    · exact hd.od (by omega) (by omega) (by omega) (by omega)
  exact ite2 (fun _ => right_10 _ [d] _ _ _ w' K E (by omega) (by simp) hL' om pm hw' k) fun _ => right_10 _ [d] _ _ _ w' K E (by omega) (by simp) hL' om pm hw' k
end K02

set_option Elab.async false
set_option linter.all false
set_option maxRecDepth 100000
set_option maxHeartbeats 8000000
namespace K02
open PySem PySem.Spec PyProof.Rows L2 Ev

def kwi : List Nat := [39, 40]
theorem kw_low (j n : Nat) (h : (kwi.take j).all (fun g => decide (g < n)) = true) : ∀ m g, m < j → kwi[m]? = some g → g < n := fun m g hm e => by
  have e2 : (kwi.take j)[m]? = some g := by rw [List.getElem?_take, if_pos hm]; exact e
  exact of_decide_eq_true (List.all_eq_true.mp h g (List.mem_of_getElem? e2))
theorem kw_no (m i : Nat) (h : kwi.contains i = false) : ¬ kwi[m]? = some i := fun e => by
  have := List.contains_iff_mem.mpr (List.mem_of_getElem? e)
  rw [h] at this
  cases this
abbrev s_ini0 : Stmt := (C8.clsBody (tops 3)).getD 0 (.Pass ⟨0, 0, 0, 0⟩)
set_option maxHeartbeats 0 in
theorem all_mk {l : PySem.W.OpenLaw} {w : World} {K : PySem.W.Frag} {h : Heap} {mg : Str → Option Value} {fa : Addr} (X : K.In h) (G : h.Ns mainGlobals mg) (hfa : mg "law" = some (.ref fa))
    {zNOUGHT : Addr} {dNOUGHT : Option Addr} {nNOUGHT : Nat} {sNOUGHT : Array (Option Value)}
    {f0 : Addr} {od0 an0 : Option Addr} {sl0 : Array (Option Value)} {oc0 kV0 dc0 pm0 cd0 ct0 : Value}
    {f1 : Addr} {od1 an1 : Option Addr} {sl1 : Array (Option Value)} {oc1 kV1 dc1 pm1 cd1 ct1 : Value}
    {f2 : Addr} {od2 an2 : Option Addr} {sl2 : Array (Option Value)} {oc2 kV2 dc2 pm2 cd2 ct2 : Value}
    {f3 : Addr} {od3 an3 : Option Addr} {sl3 : Array (Option Value)} {oc3 kV3 dc3 pm3 cd3 ct3 : Value}
    {f4 : Addr} {od4 an4 : Option Addr} {sl4 : Array (Option Value)} {oc4 kV4 dc4 pm4 cd4 ct4 : Value}
    {f5 : Addr} {od5 an5 : Option Addr} {sl5 : Array (Option Value)} {oc5 kV5 dc5 pm5 cd5 ct5 : Value}
    {f6 : Addr} {od6 an6 : Option Addr} {sl6 : Array (Option Value)} {oc6 kV6 dc6 pm6 cd6 ct6 : Value}
    {f7 : Addr} {od7 an7 : Option Addr} {sl7 : Array (Option Value)} {oc7 kV7 dc7 pm7 cd7 ct7 : Value}
    {f8 : Addr} {od8 an8 : Option Addr} {sl8 : Array (Option Value)} {oc8 kV8 dc8 pm8 cd8 ct8 : Value}
    {f9 : Addr} {od9 an9 : Option Addr} {sl9 : Array (Option Value)} {oc9 kV9 dc9 pm9 cd9 ct9 : Value}
    {f10 : Addr} {od10 an10 : Option Addr} {sl10 : Array (Option Value)} {oc10 kV10 dc10 pm10 cd10 ct10 : Value}
    {f11 : Addr} {od11 an11 : Option Addr} {sl11 : Array (Option Value)} {oc11 kV11 dc11 pm11 cd11 ct11 : Value}
    {f12 : Addr} {od12 an12 : Option Addr} {sl12 : Array (Option Value)} {oc12 kV12 dc12 pm12 cd12 ct12 : Value}
    {f13 : Addr} {od13 an13 : Option Addr} {sl13 : Array (Option Value)} {oc13 kV13 dc13 pm13 cd13 ct13 : Value}
    {f14 : Addr} {od14 an14 : Option Addr} {sl14 : Array (Option Value)} {oc14 kV14 dc14 pm14 cd14 ct14 : Value}
    {f15 : Addr} {od15 an15 : Option Addr} {sl15 : Array (Option Value)} {oc15 kV15 dc15 pm15 cd15 ct15 : Value}
    {f16 : Addr} {od16 an16 : Option Addr} {sl16 : Array (Option Value)} {oc16 kV16 dc16 pm16 cd16 ct16 : Value}
    {f17 : Addr} {od17 an17 : Option Addr} {sl17 : Array (Option Value)} {oc17 kV17 dc17 pm17 cd17 ct17 : Value}
    {f18 : Addr} {od18 an18 : Option Addr} {sl18 : Array (Option Value)} {oc18 kV18 dc18 pm18 cd18 ct18 : Value}
    {f19 : Addr} {od19 an19 : Option Addr} {sl19 : Array (Option Value)} {oc19 kV19 dc19 pm19 cd19 ct19 : Value}
    {f20 : Addr} {od20 an20 : Option Addr} {sl20 : Array (Option Value)} {oc20 kV20 dc20 pm20 cd20 ct20 : Value}
    {f21 : Addr} {od21 an21 : Option Addr} {sl21 : Array (Option Value)} {oc21 kV21 dc21 pm21 cd21 ct21 : Value}
    {f22 : Addr} {od22 an22 : Option Addr} {sl22 : Array (Option Value)} {oc22 kV22 dc22 pm22 cd22 ct22 : Value}
    {f23 : Addr} {od23 an23 : Option Addr} {sl23 : Array (Option Value)} {oc23 kV23 dc23 pm23 cd23 ct23 : Value}
    {f24 : Addr} {od24 an24 : Option Addr} {sl24 : Array (Option Value)} {oc24 kV24 dc24 pm24 cd24 ct24 : Value}
    {f25 : Addr} {od25 an25 : Option Addr} {sl25 : Array (Option Value)} {oc25 kV25 dc25 pm25 cd25 ct25 : Value}
    {f26 : Addr} {od26 an26 : Option Addr} {sl26 : Array (Option Value)} {oc26 kV26 dc26 pm26 cd26 ct26 : Value}
    {f27 : Addr} {od27 an27 : Option Addr} {sl27 : Array (Option Value)} {oc27 kV27 dc27 pm27 cd27 ct27 : Value}
    {f28 : Addr} {od28 an28 : Option Addr} {sl28 : Array (Option Value)} {oc28 kV28 dc28 pm28 cd28 ct28 : Value}
    {f29 : Addr} {od29 an29 : Option Addr} {sl29 : Array (Option Value)} {oc29 kV29 dc29 pm29 cd29 ct29 : Value}
    {f30 : Addr} {od30 an30 : Option Addr} {sl30 : Array (Option Value)} {oc30 kV30 dc30 pm30 cd30 ct30 : Value}
    {f31 : Addr} {od31 an31 : Option Addr} {sl31 : Array (Option Value)} {oc31 kV31 dc31 pm31 cd31 ct31 : Value}
    {f32 : Addr} {od32 an32 : Option Addr} {sl32 : Array (Option Value)} {oc32 kV32 dc32 pm32 cd32 ct32 : Value}
    {f33 : Addr} {od33 an33 : Option Addr} {sl33 : Array (Option Value)} {oc33 kV33 dc33 pm33 cd33 ct33 : Value}
    {f34 : Addr} {od34 an34 : Option Addr} {sl34 : Array (Option Value)} {oc34 kV34 dc34 pm34 cd34 ct34 : Value}
    {f35 : Addr} {od35 an35 : Option Addr} {sl35 : Array (Option Value)} {oc35 kV35 dc35 pm35 cd35 ct35 : Value}
    {f36 : Addr} {od36 an36 : Option Addr} {sl36 : Array (Option Value)} {oc36 kV36 dc36 pm36 cd36 ct36 : Value}
    {f37 : Addr} {od37 an37 : Option Addr} {sl37 : Array (Option Value)} {oc37 kV37 dc37 pm37 cd37 ct37 : Value}
    {f38 : Addr} {od38 an38 : Option Addr} {sl38 : Array (Option Value)} {oc38 kV38 dc38 pm38 cd38 ct38 : Value}
    {f39 : Addr} {od39 an39 : Option Addr} {sl39 : Array (Option Value)} {oc39 kV39 dc39 pm39 cd39 ct39 : Value}
    {f40 : Addr} {od40 an40 : Option Addr} {sl40 : Array (Option Value)} {oc40 kV40 dc40 pm40 cd40 ct40 : Value}
    {f41 : Addr} {od41 an41 : Option Addr} {sl41 : Array (Option Value)} {oc41 kV41 dc41 pm41 cd41 ct41 : Value}
    {f42 : Addr} {od42 an42 : Option Addr} {sl42 : Array (Option Value)} {oc42 kV42 dc42 pm42 cd42 ct42 : Value}
    {f43 : Addr} {od43 an43 : Option Addr} {sl43 : Array (Option Value)} {oc43 kV43 dc43 pm43 cd43 ct43 : Value}
    {C0 : Addr}
    {nm0 q0 : Str} {N0 : Addr} {bs0 bm0 : List Value} {sn0 : List Str} {sub0 : List Value} {ab0 : Bool} {col0 : Option Bool} {dd0 : Option Addr} {k00_ k10_ k20_ k30_ k50_ : Option Value} {fI0 : Addr} {odI0 anI0 : Option Addr} {slI0 : Array (Option Value)} {ocI0 kVI0 dcI0 pmI0 cdI0 ctI0 : Value}
    (aNOUGHT : PySem.W.nsIn K mainGlobals "NOUGHT" = some (some (.ref zNOUGHT)))
    (lNOUGHT : K.lookup zNOUGHT = some ⟨.type "tuple", dNOUGHT, .seq #[] nNOUGHT, sNOUGHT⟩)
    (a0 : PySem.W.nsIn K mainGlobals "_law_draw" = some (some (.ref f0)))
    (l0 : K.lookup f0 = some ⟨oc0, od0, .func (PySem.W.fnOf "_law_draw" "_law_draw" (defArgs s__law_draw) (defBody s__law_draw) (defScope s__law_draw) .none kV0 dc0 pm0 an0 cd0 ct0), sl0⟩)
    (c0 : PySem.W.codeIn K cd0 "_law_draw" = true) (k0 : PySem.W.keepIn K (.ref f0) = true)
    (a1 : PySem.W.nsIn K mainGlobals "_law_pick" = some (some (.ref f1)))
    (l1 : K.lookup f1 = some ⟨oc1, od1, .func (PySem.W.fnOf "_law_pick" "_law_pick" (defArgs s__law_pick) (defBody s__law_pick) (defScope s__law_pick) .none kV1 dc1 pm1 an1 cd1 ct1), sl1⟩)
    (c1 : PySem.W.codeIn K cd1 "_law_pick" = true) (k1 : PySem.W.keepIn K (.ref f1) = true)
    (a2 : PySem.W.nsIn K mainGlobals "_law_order_list" = some (some (.ref f2)))
    (l2 : K.lookup f2 = some ⟨oc2, od2, .func (PySem.W.fnOf "_law_order_list" "_law_order_list" (defArgs s__law_order_list) (defBody s__law_order_list) (defScope s__law_order_list) .none kV2 dc2 pm2 an2 cd2 ct2), sl2⟩)
    (c2 : PySem.W.codeIn K cd2 "_law_order_list" = true) (k2 : PySem.W.keepIn K (.ref f2) = true)
    (a3 : PySem.W.nsIn K mainGlobals "_law_grid" = some (some (.ref f3)))
    (l3 : K.lookup f3 = some ⟨oc3, od3, .func (PySem.W.fnOf "_law_grid" "_law_grid" (defArgs s__law_grid) (defBody s__law_grid) (defScope s__law_grid) .none kV3 dc3 pm3 an3 cd3 ct3), sl3⟩)
    (c3 : PySem.W.codeIn K cd3 "_law_grid" = true) (k3 : PySem.W.keepIn K (.ref f3) = true)
    (a4 : PySem.W.nsIn K mainGlobals "_law_ratio" = some (some (.ref f4)))
    (l4 : K.lookup f4 = some ⟨oc4, od4, .func (PySem.W.fnOf "_law_ratio" "_law_ratio" (defArgs s__law_ratio) (defBody s__law_ratio) (defScope s__law_ratio) .none kV4 dc4 pm4 an4 cd4 ct4), sl4⟩)
    (c4 : PySem.W.codeIn K cd4 "_law_ratio" = true) (k4 : PySem.W.keepIn K (.ref f4) = true)
    (a5 : PySem.W.nsIn K mainGlobals "_law_number" = some (some (.ref f5)))
    (l5 : K.lookup f5 = some ⟨oc5, od5, .func (PySem.W.fnOf "_law_number" "_law_number" (defArgs s__law_number) (defBody s__law_number) (defScope s__law_number) .none kV5 dc5 pm5 an5 cd5 ct5), sl5⟩)
    (c5 : PySem.W.codeIn K cd5 "_law_number" = true) (k5 : PySem.W.keepIn K (.ref f5) = true)
    (a6 : PySem.W.nsIn K mainGlobals "_law_polynomial" = some (some (.ref f6)))
    (l6 : K.lookup f6 = some ⟨oc6, od6, .func (PySem.W.fnOf "_law_polynomial" "_law_polynomial" (defArgs s__law_polynomial) (defBody s__law_polynomial) (defScope s__law_polynomial) .none kV6 dc6 pm6 an6 cd6 ct6), sl6⟩)
    (c6 : PySem.W.codeIn K cd6 "_law_polynomial" = true) (k6 : PySem.W.keepIn K (.ref f6) = true)
    (a7 : PySem.W.nsIn K mainGlobals "_law_sheet" = some (some (.ref f7)))
    (l7 : K.lookup f7 = some ⟨oc7, od7, .func (PySem.W.fnOf "_law_sheet" "_law_sheet" (defArgs s__law_sheet) (defBody s__law_sheet) (defScope s__law_sheet) .none kV7 dc7 pm7 an7 cd7 ct7), sl7⟩)
    (c7 : PySem.W.codeIn K cd7 "_law_sheet" = true) (k7 : PySem.W.keepIn K (.ref f7) = true)
    (a8 : PySem.W.nsIn K mainGlobals "_law_odd" = some (some (.ref f8)))
    (l8 : K.lookup f8 = some ⟨oc8, od8, .func (PySem.W.fnOf "_law_odd" "_law_odd" (defArgs s__law_odd) (defBody s__law_odd) (defScope s__law_odd) .none kV8 dc8 pm8 an8 cd8 ct8), sl8⟩)
    (c8 : PySem.W.codeIn K cd8 "_law_odd" = true) (k8 : PySem.W.keepIn K (.ref f8) = true)
    (a9 : PySem.W.nsIn K mainGlobals "_law_bent" = some (some (.ref f9)))
    (l9 : K.lookup f9 = some ⟨oc9, od9, .func (PySem.W.fnOf "_law_bent" "_law_bent" (defArgs s__law_bent_L1) (defBody s__law_bent_L1) (defScope s__law_bent_L1) .none kV9 dc9 pm9 an9 cd9 ct9), sl9⟩)
    (c9 : PySem.W.codeIn K cd9 "_law_bent" = true) (k9 : PySem.W.keepIn K (.ref f9) = true)
    (a10 : PySem.W.nsIn K mainGlobals "_law_bent" = some (some (.ref f10)))
    (l10 : K.lookup f10 = some ⟨oc10, od10, .func (PySem.W.fnOf "_law_bent" "_law_bent" (defArgs s__law_bent_L2) (defBody s__law_bent_L2) (defScope s__law_bent_L2) .none kV10 dc10 pm10 an10 cd10 ct10), sl10⟩)
    (c10 : PySem.W.codeIn K cd10 "_law_bent" = true) (k10 : PySem.W.keepIn K (.ref f10) = true)
    (a11 : PySem.W.nsIn K mainGlobals "_law_bent" = some (some (.ref f11)))
    (l11 : K.lookup f11 = some ⟨oc11, od11, .func (PySem.W.fnOf "_law_bent" "_law_bent" (defArgs s__law_bent_L3) (defBody s__law_bent_L3) (defScope s__law_bent_L3) .none kV11 dc11 pm11 an11 cd11 ct11), sl11⟩)
    (c11 : PySem.W.codeIn K cd11 "_law_bent" = true) (k11 : PySem.W.keepIn K (.ref f11) = true)
    (a12 : PySem.W.nsIn K mainGlobals "_law_bent" = some (some (.ref f12)))
    (l12 : K.lookup f12 = some ⟨oc12, od12, .func (PySem.W.fnOf "_law_bent" "_law_bent" (defArgs s__law_bent_L4) (defBody s__law_bent_L4) (defScope s__law_bent_L4) .none kV12 dc12 pm12 an12 cd12 ct12), sl12⟩)
    (c12 : PySem.W.codeIn K cd12 "_law_bent" = true) (k12 : PySem.W.keepIn K (.ref f12) = true)
    (a13 : PySem.W.nsIn K mainGlobals "_law_bent" = some (some (.ref f13)))
    (l13 : K.lookup f13 = some ⟨oc13, od13, .func (PySem.W.fnOf "_law_bent" "_law_bent" (defArgs s__law_bent_L5) (defBody s__law_bent_L5) (defScope s__law_bent_L5) .none kV13 dc13 pm13 an13 cd13 ct13), sl13⟩)
    (c13 : PySem.W.codeIn K cd13 "_law_bent" = true) (k13 : PySem.W.keepIn K (.ref f13) = true)
    (a14 : PySem.W.nsIn K mainGlobals "_law_bent" = some (some (.ref f14)))
    (l14 : K.lookup f14 = some ⟨oc14, od14, .func (PySem.W.fnOf "_law_bent" "_law_bent" (defArgs s__law_bent_L6) (defBody s__law_bent_L6) (defScope s__law_bent_L6) .none kV14 dc14 pm14 an14 cd14 ct14), sl14⟩)
    (c14 : PySem.W.codeIn K cd14 "_law_bent" = true) (k14 : PySem.W.keepIn K (.ref f14) = true)
    (a15 : PySem.W.nsIn K mainGlobals "_law_bent" = some (some (.ref f15)))
    (l15 : K.lookup f15 = some ⟨oc15, od15, .func (PySem.W.fnOf "_law_bent" "_law_bent" (defArgs s__law_bent_L7) (defBody s__law_bent_L7) (defScope s__law_bent_L7) .none kV15 dc15 pm15 an15 cd15 ct15), sl15⟩)
    (c15 : PySem.W.codeIn K cd15 "_law_bent" = true) (k15 : PySem.W.keepIn K (.ref f15) = true)
    (a16 : PySem.W.nsIn K mainGlobals "_law_bent" = some (some (.ref f16)))
    (l16 : K.lookup f16 = some ⟨oc16, od16, .func (PySem.W.fnOf "_law_bent" "_law_bent" (defArgs s__law_bent_L8) (defBody s__law_bent_L8) (defScope s__law_bent_L8) .none kV16 dc16 pm16 an16 cd16 ct16), sl16⟩)
    (c16 : PySem.W.codeIn K cd16 "_law_bent" = true) (k16 : PySem.W.keepIn K (.ref f16) = true)
    (a17 : PySem.W.nsIn K mainGlobals "_law_bent" = some (some (.ref f17)))
    (l17 : K.lookup f17 = some ⟨oc17, od17, .func (PySem.W.fnOf "_law_bent" "_law_bent" (defArgs s__law_bent_L9) (defBody s__law_bent_L9) (defScope s__law_bent_L9) .none kV17 dc17 pm17 an17 cd17 ct17), sl17⟩)
    (c17 : PySem.W.codeIn K cd17 "_law_bent" = true) (k17 : PySem.W.keepIn K (.ref f17) = true)
    (a18 : PySem.W.nsIn K mainGlobals "_law_bent" = some (some (.ref f18)))
    (l18 : K.lookup f18 = some ⟨oc18, od18, .func (PySem.W.fnOf "_law_bent" "_law_bent" (defArgs s__law_bent_L10) (defBody s__law_bent_L10) (defScope s__law_bent_L10) .none kV18 dc18 pm18 an18 cd18 ct18), sl18⟩)
    (c18 : PySem.W.codeIn K cd18 "_law_bent" = true) (k18 : PySem.W.keepIn K (.ref f18) = true)
    (a19 : PySem.W.nsIn K mainGlobals "_law_is_square" = some (some (.ref f19)))
    (l19 : K.lookup f19 = some ⟨oc19, od19, .func (PySem.W.fnOf "_law_is_square" "_law_is_square" (defArgs s__law_is_square) (defBody s__law_is_square) (defScope s__law_is_square) .none kV19 dc19 pm19 an19 cd19 ct19), sl19⟩)
    (c19 : PySem.W.codeIn K cd19 "_law_is_square" = true) (k19 : PySem.W.keepIn K (.ref f19) = true)
    (a20 : PySem.W.nsIn K mainGlobals "_law_is_whole" = some (some (.ref f20)))
    (l20 : K.lookup f20 = some ⟨oc20, od20, .func (PySem.W.fnOf "_law_is_whole" "_law_is_whole" (defArgs s__law_is_whole) (defBody s__law_is_whole) (defScope s__law_is_whole) .none kV20 dc20 pm20 an20 cd20 ct20), sl20⟩)
    (c20 : PySem.W.codeIn K cd20 "_law_is_whole" = true) (k20 : PySem.W.keepIn K (.ref f20) = true)
    (a21 : PySem.W.nsIn K mainGlobals "_law_is_grid" = some (some (.ref f21)))
    (l21 : K.lookup f21 = some ⟨oc21, od21, .func (PySem.W.fnOf "_law_is_grid" "_law_is_grid" (defArgs s__law_is_grid) (defBody s__law_is_grid) (defScope s__law_is_grid) .none kV21 dc21 pm21 an21 cd21 ct21), sl21⟩)
    (c21 : PySem.W.codeIn K cd21 "_law_is_grid" = true) (k21 : PySem.W.keepIn K (.ref f21) = true)
    (a22 : PySem.W.nsIn K mainGlobals "_law_is_fraction" = some (some (.ref f22)))
    (l22 : K.lookup f22 = some ⟨oc22, od22, .func (PySem.W.fnOf "_law_is_fraction" "_law_is_fraction" (defArgs s__law_is_fraction) (defBody s__law_is_fraction) (defScope s__law_is_fraction) .none kV22 dc22 pm22 an22 cd22 ct22), sl22⟩)
    (c22 : PySem.W.codeIn K cd22 "_law_is_fraction" = true) (k22 : PySem.W.keepIn K (.ref f22) = true)
    (a23 : PySem.W.nsIn K mainGlobals "_law_is_polynomial" = some (some (.ref f23)))
    (l23 : K.lookup f23 = some ⟨oc23, od23, .func (PySem.W.fnOf "_law_is_polynomial" "_law_is_polynomial" (defArgs s__law_is_polynomial) (defBody s__law_is_polynomial) (defScope s__law_is_polynomial) .none kV23 dc23 pm23 an23 cd23 ct23), sl23⟩)
    (c23 : PySem.W.codeIn K cd23 "_law_is_polynomial" = true) (k23 : PySem.W.keepIn K (.ref f23) = true)
    (a24 : PySem.W.nsIn K mainGlobals "_law_is_sheet" = some (some (.ref f24)))
    (l24 : K.lookup f24 = some ⟨oc24, od24, .func (PySem.W.fnOf "_law_is_sheet" "_law_is_sheet" (defArgs s__law_is_sheet) (defBody s__law_is_sheet) (defScope s__law_is_sheet) .none kV24 dc24 pm24 an24 cd24 ct24), sl24⟩)
    (c24 : PySem.W.codeIn K cd24 "_law_is_sheet" = true) (k24 : PySem.W.keepIn K (.ref f24) = true)
    (a25 : PySem.W.nsIn K mainGlobals "_law_orders" = some (some (.ref f25)))
    (l25 : K.lookup f25 = some ⟨oc25, od25, .func (PySem.W.fnOf "_law_orders" "_law_orders" (defArgs s__law_orders) (defBody s__law_orders) (defScope s__law_orders) .none kV25 dc25 pm25 an25 cd25 ct25), sl25⟩)
    (c25 : PySem.W.codeIn K cd25 "_law_orders" = true) (k25 : PySem.W.keepIn K (.ref f25) = true)
    (a26 : PySem.W.nsIn K mainGlobals "is_whole" = some (some (.ref f26)))
    (l26 : K.lookup f26 = some ⟨oc26, od26, .func (PySem.W.fnOf "is_whole" "is_whole" (defArgs s_is_whole) (defBody s_is_whole) (defScope s_is_whole) .none kV26 dc26 pm26 an26 cd26 ct26), sl26⟩)
    (c26 : PySem.W.codeIn K cd26 "is_whole" = true) (k26 : PySem.W.keepIn K (.ref f26) = true)
    (a27 : PySem.W.nsIn K mainGlobals "are_wholes" = some (some (.ref f27)))
    (l27 : K.lookup f27 = some ⟨oc27, od27, .func (PySem.W.fnOf "are_wholes" "are_wholes" (defArgs s_are_wholes) (defBody s_are_wholes) (defScope s_are_wholes) .none kV27 dc27 pm27 an27 cd27 ct27), sl27⟩)
    (c27 : PySem.W.codeIn K cd27 "are_wholes" = true) (k27 : PySem.W.keepIn K (.ref f27) = true)
    (a28 : PySem.W.nsIn K mainGlobals "divisor_of" = some (some (.ref f28)))
    (l28 : K.lookup f28 = some ⟨oc28, od28, .func (PySem.W.fnOf "divisor_of" "divisor_of" (defArgs s_divisor_of) (defBody s_divisor_of) (defScope s_divisor_of) .none kV28 dc28 pm28 an28 cd28 ct28), sl28⟩)
    (c28 : PySem.W.codeIn K cd28 "divisor_of" = true) (k28 : PySem.W.keepIn K (.ref f28) = true)
    (a29 : PySem.W.nsIn K mainGlobals "is_ratio" = some (some (.ref f29)))
    (l29 : K.lookup f29 = some ⟨oc29, od29, .func (PySem.W.fnOf "is_ratio" "is_ratio" (defArgs s_is_ratio) (defBody s_is_ratio) (defScope s_is_ratio) .none kV29 dc29 pm29 an29 cd29 ct29), sl29⟩)
    (c29 : PySem.W.codeIn K cd29 "is_ratio" = true) (k29 : PySem.W.keepIn K (.ref f29) = true)
    (a30 : PySem.W.nsIn K mainGlobals "is_poly" = some (some (.ref f30)))
    (l30 : K.lookup f30 = some ⟨oc30, od30, .func (PySem.W.fnOf "is_poly" "is_poly" (defArgs s_is_poly) (defBody s_is_poly) (defScope s_is_poly) .none kV30 dc30 pm30 an30 cd30 ct30), sl30⟩)
    (c30 : PySem.W.codeIn K cd30 "is_poly" = true) (k30 : PySem.W.keepIn K (.ref f30) = true)
    (a31 : PySem.W.nsIn K mainGlobals "is_entry" = some (some (.ref f31)))
    (l31 : K.lookup f31 = some ⟨oc31, od31, .func (PySem.W.fnOf "is_entry" "is_entry" (defArgs s_is_entry) (defBody s_is_entry) (defScope s_is_entry) .none kV31 dc31 pm31 an31 cd31 ct31), sl31⟩)
    (c31 : PySem.W.codeIn K cd31 "is_entry" = true) (k31 : PySem.W.keepIn K (.ref f31) = true)
    (a32 : PySem.W.nsIn K mainGlobals "is_square_of" = some (some (.ref f32)))
    (l32 : K.lookup f32 = some ⟨oc32, od32, .func (PySem.W.fnOf "is_square_of" "is_square_of" (defArgs s_is_square_of) (defBody s_is_square_of) (defScope s_is_square_of) .none kV32 dc32 pm32 an32 cd32 ct32), sl32⟩)
    (c32 : PySem.W.codeIn K cd32 "is_square_of" = true) (k32 : PySem.W.keepIn K (.ref f32) = true)
    (a33 : PySem.W.nsIn K mainGlobals "is_modelled" = some (some (.ref f33)))
    (l33 : K.lookup f33 = some ⟨oc33, od33, .func (PySem.W.fnOf "is_modelled" "is_modelled" (defArgs s_is_modelled) (defBody s_is_modelled) (defScope s_is_modelled) .none kV33 dc33 pm33 an33 cd33 ct33), sl33⟩)
    (c33 : PySem.W.codeIn K cd33 "is_modelled" = true) (k33 : PySem.W.keepIn K (.ref f33) = true)
    (a34 : PySem.W.nsIn K mainGlobals "check_model" = some (some (.ref f34)))
    (l34 : K.lookup f34 = some ⟨oc34, od34, .func (PySem.W.fnOf "check_model" "check_model" (defArgs s_check_model) (defBody s_check_model) (defScope s_check_model) .none kV34 dc34 pm34 an34 cd34 ct34), sl34⟩)
    (c34 : PySem.W.codeIn K cd34 "check_model" = true) (k34 : PySem.W.keepIn K (.ref f34) = true)
    (a35 : PySem.W.nsIn K mainGlobals "pattern_by" = some (some (.ref f35)))
    (l35 : K.lookup f35 = some ⟨oc35, od35, .func (PySem.W.fnOf "pattern_by" "pattern_by" (defArgs s_pattern_by) (defBody s_pattern_by) (defScope s_pattern_by) .none kV35 dc35 pm35 an35 cd35 ct35), sl35⟩)
    (c35 : PySem.W.codeIn K cd35 "pattern_by" = true) (k35 : PySem.W.keepIn K (.ref f35) = true)
    (a36 : PySem.W.nsIn K mainGlobals "pattern_of" = some (some (.ref f36)))
    (l36 : K.lookup f36 = some ⟨oc36, od36, .func (PySem.W.fnOf "pattern_of" "pattern_of" (defArgs s_pattern_of) (defBody s_pattern_of) (defScope s_pattern_of) .none kV36 dc36 pm36 an36 cd36 ct36), sl36⟩)
    (c36 : PySem.W.codeIn K cd36 "pattern_of" = true) (k36 : PySem.W.keepIn K (.ref f36) = true)
    (a37 : PySem.W.nsIn K mainGlobals "_law_said" = some (some (.ref f37)))
    (l37 : K.lookup f37 = some ⟨oc37, od37, .func (PySem.W.fnOf "_law_said" "_law_said" (defArgs s__law_said) (defBody s__law_said) (defScope s__law_said) .none kV37 dc37 pm37 an37 cd37 ct37), sl37⟩)
    (c37 : PySem.W.codeIn K cd37 "_law_said" = true) (k37 : PySem.W.keepIn K (.ref f37) = true)
    (a38 : PySem.W.nsIn K mainGlobals "is_patterned" = some (some (.ref f38)))
    (l38 : K.lookup f38 = some ⟨oc38, od38, .func (PySem.W.fnOf "is_patterned" "is_patterned" (defArgs s_is_patterned) (defBody s_is_patterned) (defScope s_is_patterned) .none kV38 dc38 pm38 an38 cd38 ct38), sl38⟩)
    (c38 : PySem.W.codeIn K cd38 "is_patterned" = true) (k38 : PySem.W.keepIn K (.ref f38) = true)
    (a39 : PySem.W.nsIn K mainGlobals "is_pattern" = some (some (.ref f39)))
    (l39 : K.lookup f39 = some ⟨oc39, od39, .func (PySem.W.fnOf "is_pattern" "is_pattern" (defArgs s_is_pattern) (defBody s_is_pattern) (defScope s_is_pattern) .none kV39 dc39 pm39 an39 cd39 ct39), sl39⟩)
    (c39 : PySem.W.codeIn K cd39 "is_pattern" = true) (k39 : PySem.W.keepIn K (.ref f39) = true)
    (a40 : PySem.W.nsIn K mainGlobals "is_model" = some (some (.ref f40)))
    (l40 : K.lookup f40 = some ⟨oc40, od40, .func (PySem.W.fnOf "is_model" "is_model" (defArgs s_is_model) (defBody s_is_model) (defScope s_is_model) .none kV40 dc40 pm40 an40 cd40 ct40), sl40⟩)
    (c40 : PySem.W.codeIn K cd40 "is_model" = true) (k40 : PySem.W.keepIn K (.ref f40) = true)
    (a41 : PySem.W.nsIn K mainGlobals "_law_right" = some (some (.ref f41)))
    (l41 : K.lookup f41 = some ⟨oc41, od41, .func (PySem.W.fnOf "_law_right" "_law_right" (defArgs s__law_right) (defBody s__law_right) (defScope s__law_right) .none kV41 dc41 pm41 an41 cd41 ct41), sl41⟩)
    (c41 : PySem.W.codeIn K cd41 "_law_right" = true) (k41 : PySem.W.keepIn K (.ref f41) = true)
    (a42 : PySem.W.nsIn K mainGlobals "_law_well" = some (some (.ref f42)))
    (l42 : K.lookup f42 = some ⟨oc42, od42, .func (PySem.W.fnOf "_law_well" "_law_well" (defArgs s__law_well) (defBody s__law_well) (defScope s__law_well) .none kV42 dc42 pm42 an42 cd42 ct42), sl42⟩)
    (c42 : PySem.W.codeIn K cd42 "_law_well" = true) (k42 : PySem.W.keepIn K (.ref f42) = true)
    (a43 : PySem.W.nsIn K mainGlobals "law" = some (some (.ref f43)))
    (l43 : K.lookup f43 = some ⟨oc43, od43, .func (PySem.W.fnOf "law" "law" (defArgs s_law) (defBody s_law) (defScope s_law) .none kV43 dc43 pm43 an43 cd43 ct43), sl43⟩)
    (c43 : PySem.W.codeIn K cd43 "law" = true) (k43 : PySem.W.keepIn K (.ref f43) = true)
    (z_abs : PySem.W.nsIn K mainGlobals "abs" = some none)
    (z_all : PySem.W.nsIn K mainGlobals "all" = some none)
    (z_bool : PySem.W.nsIn K mainGlobals "bool" = some none)
    (z_divmod : PySem.W.nsIn K mainGlobals "divmod" = some none)
    (z_int : PySem.W.nsIn K mainGlobals "int" = some none)
    (z_isinstance : PySem.W.nsIn K mainGlobals "isinstance" = some none)
    (z_len : PySem.W.nsIn K mainGlobals "len" = some none)
    (z_list : PySem.W.nsIn K mainGlobals "list" = some none)
    (z_max : PySem.W.nsIn K mainGlobals "max" = some none)
    (z_min : PySem.W.nsIn K mainGlobals "min" = some none)
    (z_range : PySem.W.nsIn K mainGlobals "range" = some none)
    (z_repr : PySem.W.nsIn K mainGlobals "repr" = some none)
    (z_str : PySem.W.nsIn K mainGlobals "str" = some none)
    (z_tuple : PySem.W.nsIn K mainGlobals "tuple" = some none)
    (z_gcd : PySem.W.nsIn K mainGlobals "gcd" = some (some (.builtin "math.gcd")))
    (e0a : PySem.W.nsIn K mainGlobals "InvalidModel" = some (some (.ref C0)))
    (e0o : K.lookup C0 = some (excClassObj nm0 q0 C0 N0 bs0 bm0 true sn0 sub0 ab0 col0 dd0 k00_ k10_ k20_ k30_ k50_ "ValueError.__new__")) (e0r : PySem.HandSPX.refsVE bm0 = true)
    (e0k : PySem.W.keepIn K (.ref C0) = true) (e0s : PySem.W.subIn K (.ref C0) (.type "BaseException") = some true) (e0t : PySem.W.typeIn K (.ref C0) = some (.type "type")) (e0d : PySem.W.hasDictIn K C0 = true)
    (e0S : PySem.W.findIn K (.ref C0) "__setattr__" = some (some (.builtin "object.__setattr__"))) (e0i : PySem.W.findIn K (.ref C0) "__init__" = some (some (.ref fI0)))
    (e0I : K.lookup fI0 = some ⟨ocI0, odI0, .func (PySem.W.fnOf "__init__" "InvalidModel.__init__" (defArgs s_ini0) (defBody s_ini0) (defScope s_ini0) .none kVI0 dcI0 pmI0 anI0 cdI0 ctI0), slI0⟩)
    (e0C : PySem.W.codeIn K cdI0 "InvalidModel.__init__" = true) (e0K : PySem.W.keepIn K (.ref fI0) = true) (e0y : PySem.W.typeIn K (.ref fI0) = some (.type "function"))
    (e0g : PySem.W.findIn K (.ref C0) "__getattribute__" = some (some (.builtin "BaseException.__getattribute__"))) (e0h : PySem.W.findIn K (.ref C0) "__getattr__" = some none) (e0f : PySem.W.findIn K (.ref C0) "given" = some none)
    (yn : PySem.W.specialIn K (.builtin "object.__class__") "__get__" = some (some (.builtin "getset_descriptor.__get__"))) (yt : PySem.W.takesIn K (.builtin "object.__class__") = some true)
    (w0_0 : PySem.W.kitOne K (.ref C0) (.ref C0) = some true)
    (x0_0 : PySem.W.subIn K (.ref C0) (.ref C0) = some true) :
    ∃ (c : Kx) (fd : FuncData) (S : Spc), c.K = K ∧ (∀ (s : Shared) (u : Value), BindsTo s fd ⟨[u], []⟩ [("_law_script", u)]) ∧ (∀ base : Heap, K.In base → base.Ns mainGlobals mg → FnG l.prog w K mg base 44 fa fd ["_law_script"] (spOf c S)) ∧
      ∀ ns : List Int, ns.length ≤ 63 → S [.fz (ns.map D.int)] [] (fun d _ _ => d = .bl true) fun _ _ _ => False := by
  have e := hfa.symm.trans (PySem.W.mg_of X G a43)
  cases e
  let c : Kx := { K := K, fa := fun g => [f0, f1, f2, f3, f4, f5, f6, f7, f8, f9, f10, f11, f12, f13, f14, f15, f16, f17, f18, f19, f20, f21, f22, f23, f24, f25, f26, f27, f28, f29, f30, f31, f32, f33, f34, f35, f36, f37, f38, f39, f40, f41, f42, fa].getD g 0, ca := fun g => [C0].getD g 0, fld := fun g => [("given" : Str)].getD g "" }
  have F0 := fun_mk (st := s__law_draw) l0 c0 k0
  have b0 := F0.binds (ps := ["_law_well_here", "_law_many"]) fun _ _ _ _ _ _ us hl => match us, hl with | [_, _], _ => rfl
  have m0 := PySem.W.mg_of X G a0
  have F1 := fun_mk (st := s__law_pick) l1 c1 k1
  have b1 := F1.binds (ps := ["_law_well_here", "_law_some"]) fun _ _ _ _ _ _ us hl => match us, hl with | [_, _], _ => rfl
  have m1 := PySem.W.mg_of X G a1
  have F2 := fun_mk (st := s__law_order_list) l2 c2 k2
  have b2 := F2.binds (ps := ["_law_well_here", "_law_n"]) fun _ _ _ _ _ _ us hl => match us, hl with | [_, _], _ => rfl
  have m2 := PySem.W.mg_of X G a2
  have F3 := fun_mk (st := s__law_grid) l3 c3 k3
  have b3 := F3.binds (ps := ["_law_well_here", "_law_most"]) fun _ _ _ _ _ _ us hl => match us, hl with | [_, _], _ => rfl
  have m3 := PySem.W.mg_of X G a3
  have F4 := fun_mk (st := s__law_ratio) l4 c4 k4
  have b4 := F4.binds (ps := ["_law_n", "_law_m"]) fun _ _ _ _ _ _ us hl => match us, hl with | [_, _], _ => rfl
  have m4 := PySem.W.mg_of X G a4
  have F5 := fun_mk (st := s__law_number) l5 c5 k5
  have b5 := F5.binds (ps := ["_law_well_here"]) fun _ _ _ _ _ _ us hl => match us, hl with | [_], _ => rfl
  have m5 := PySem.W.mg_of X G a5
  have F6 := fun_mk (st := s__law_polynomial) l6 c6 k6
  have b6 := F6.binds (ps := ["_law_well_here", "_law_order"]) fun _ _ _ _ _ _ us hl => match us, hl with | [_, _], _ => rfl
  have m6 := PySem.W.mg_of X G a6
  have F7 := fun_mk (st := s__law_sheet) l7 c7 k7
  have b7 := F7.binds (ps := ["_law_well_here", "_law_rows"]) fun _ _ _ _ _ _ us hl => match us, hl with | [_, _], _ => rfl
  have m7 := PySem.W.mg_of X G a7
  have F8 := fun_mk (st := s__law_odd) l8 c8 k8
  have b8 := F8.binds (ps := ["_law_well_here"]) fun _ _ _ _ _ _ us hl => match us, hl with | [_], _ => rfl
  have m8 := PySem.W.mg_of X G a8
  have F9 := fun_mk (st := s__law_bent_L1) l9 c9 k9
  have b9 := F9.binds (ps := ["_law_well_here", "_law_thing"]) fun _ _ _ _ _ _ us hl => match us, hl with | [_, _], _ => rfl
  have m9 := PySem.W.mg_of X G a9
  have F10 := fun_mk (st := s__law_bent_L2) l10 c10 k10
  have b10 := F10.binds (ps := ["_law_well_here", "_law_thing"]) fun _ _ _ _ _ _ us hl => match us, hl with | [_, _], _ => rfl
  have m10 := PySem.W.mg_of X G a10
  have F11 := fun_mk (st := s__law_bent_L3) l11 c11 k11
  have b11 := F11.binds (ps := ["_law_well_here", "_law_thing"]) fun _ _ _ _ _ _ us hl => match us, hl with | [_, _], _ => rfl
  have m11 := PySem.W.mg_of X G a11
  have F12 := fun_mk (st := s__law_bent_L4) l12 c12 k12
  have b12 := F12.binds (ps := ["_law_well_here", "_law_thing"]) fun _ _ _ _ _ _ us hl => match us, hl with | [_, _], _ => rfl
  have m12 := PySem.W.mg_of X G a12
  have F13 := fun_mk (st := s__law_bent_L5) l13 c13 k13
  have b13 := F13.binds (ps := ["_law_well_here", "_law_thing"]) fun _ _ _ _ _ _ us hl => match us, hl with | [_, _], _ => rfl
  have m13 := PySem.W.mg_of X G a13
  have F14 := fun_mk (st := s__law_bent_L6) l14 c14 k14
  have b14 := F14.binds (ps := ["_law_well_here", "_law_thing"]) fun _ _ _ _ _ _ us hl => match us, hl with | [_, _], _ => rfl
  have m14 := PySem.W.mg_of X G a14
  have F15 := fun_mk (st := s__law_bent_L7) l15 c15 k15
  have b15 := F15.binds (ps := ["_law_well_here", "_law_thing"]) fun _ _ _ _ _ _ us hl => match us, hl with | [_, _], _ => rfl
  have m15 := PySem.W.mg_of X G a15
  have F16 := fun_mk (st := s__law_bent_L8) l16 c16 k16
  have b16 := F16.binds (ps := ["_law_well_here", "_law_thing"]) fun _ _ _ _ _ _ us hl => match us, hl with | [_, _], _ => rfl
  have m16 := PySem.W.mg_of X G a16
  have F17 := fun_mk (st := s__law_bent_L9) l17 c17 k17
  have b17 := F17.binds (ps := ["_law_well_here", "_law_thing"]) fun _ _ _ _ _ _ us hl => match us, hl with | [_, _], _ => rfl
  have m17 := PySem.W.mg_of X G a17
  have F18 := fun_mk (st := s__law_bent_L10) l18 c18 k18
  have b18 := F18.binds (ps := ["_law_well_here", "_law_thing"]) fun _ _ _ _ _ _ us hl => match us, hl with | [_, _], _ => rfl
  have m18 := PySem.W.mg_of X G a18
  have F19 := fun_mk (st := s__law_is_square) l19 c19 k19
  have b19 := F19.binds (ps := ["_law_thing"]) fun _ _ _ _ _ _ us hl => match us, hl with | [_], _ => rfl
  have m19 := PySem.W.mg_of X G a19
  have F20 := fun_mk (st := s__law_is_whole) l20 c20 k20
  have b20 := F20.binds (ps := ["_law_thing"]) fun _ _ _ _ _ _ us hl => match us, hl with | [_], _ => rfl
  have m20 := PySem.W.mg_of X G a20
  have F21 := fun_mk (st := s__law_is_grid) l21 c21 k21
  have b21 := F21.binds (ps := ["_law_thing"]) fun _ _ _ _ _ _ us hl => match us, hl with | [_], _ => rfl
  have m21 := PySem.W.mg_of X G a21
  have F22 := fun_mk (st := s__law_is_fraction) l22 c22 k22
  have b22 := F22.binds (ps := ["_law_thing"]) fun _ _ _ _ _ _ us hl => match us, hl with | [_], _ => rfl
  have m22 := PySem.W.mg_of X G a22
  have F23 := fun_mk (st := s__law_is_polynomial) l23 c23 k23
  have b23 := F23.binds (ps := ["_law_thing"]) fun _ _ _ _ _ _ us hl => match us, hl with | [_], _ => rfl
  have m23 := PySem.W.mg_of X G a23
  have F24 := fun_mk (st := s__law_is_sheet) l24 c24 k24
  have b24 := F24.binds (ps := ["_law_thing"]) fun _ _ _ _ _ _ us hl => match us, hl with | [_], _ => rfl
  have m24 := PySem.W.mg_of X G a24
  have F25 := fun_mk (st := s__law_orders) l25 c25 k25
  have b25 := F25.binds (ps := ["_law_rows"]) fun _ _ _ _ _ _ us hl => match us, hl with | [_], _ => rfl
  have m25 := PySem.W.mg_of X G a25
  have F26 := fun_mk (st := s_is_whole) l26 c26 k26
  have b26 := F26.binds (ps := ["value"]) fun _ _ _ _ _ _ us hl => match us, hl with | [_], _ => rfl
  have m26 := PySem.W.mg_of X G a26
  have F27 := fun_mk (st := s_are_wholes) l27 c27 k27
  have b27 := F27.binds (ps := ["value", "many"]) fun _ _ _ _ _ _ us hl => match us, hl with | [_, _], _ => rfl
  have m27 := PySem.W.mg_of X G a27
  have F28 := fun_mk (st := s_divisor_of) l28 c28 k28
  have b28 := F28.binds (ps := ["numbers"]) fun _ _ _ _ _ _ us hl => match us, hl with | [_], _ => rfl
  have m28 := PySem.W.mg_of X G a28
  have F29 := fun_mk (st := s_is_ratio) l29 c29 k29
  have b29 := F29.binds (ps := ["value"]) fun _ _ _ _ _ _ us hl => match us, hl with | [_], _ => rfl
  have m29 := PySem.W.mg_of X G a29
  have F30 := fun_mk (st := s_is_poly) l30 c30 k30
  have b30 := F30.binds (ps := ["value"]) fun _ _ _ _ _ _ us hl => match us, hl with | [_], _ => rfl
  have m30 := PySem.W.mg_of X G a30
  have F31 := fun_mk (st := s_is_entry) l31 c31 k31
  have b31 := F31.binds (ps := ["value"]) fun _ _ _ _ _ _ us hl => match us, hl with | [_], _ => rfl
  have m31 := PySem.W.mg_of X G a31
  have F32 := fun_mk (st := s_is_square_of) l32 c32 k32
  have b32 := F32.binds (ps := ["value", "test"]) fun _ _ _ _ _ _ us hl => match us, hl with | [_, _], _ => rfl
  have m32 := PySem.W.mg_of X G a32
  have F33 := fun_mk (st := s_is_modelled) l33 c33 k33
  have b33 := F33.binds (ps := ["value"]) fun _ _ _ _ _ _ us hl => match us, hl with | [_], _ => rfl
  have m33 := PySem.W.mg_of X G a33
  have F34 := fun_mk (st := s_check_model) l34 c34 k34
  have b34 := F34.binds (ps := ["value"]) fun _ _ _ _ _ _ us hl => match us, hl with | [_], _ => rfl
  have m34 := PySem.W.mg_of X G a34
  have F35 := fun_mk (st := s_pattern_by) l35 c35 k35
  have b35 := F35.binds (ps := ["model"]) fun _ _ _ _ _ _ us hl => match us, hl with | [_], _ => rfl
  have m35 := PySem.W.mg_of X G a35
  have F36 := fun_mk (st := s_pattern_of) l36 c36 k36
  have b36 := F36.binds (ps := ["model"]) fun _ _ _ _ _ _ us hl => match us, hl with | [_], _ => rfl
  have m36 := PySem.W.mg_of X G a36
  have F37 := fun_mk (st := s__law_said) l37 c37 k37
  have b37 := F37.binds (ps := ["_law_thing"]) fun _ _ _ _ _ _ us hl => match us, hl with | [_], _ => rfl
  have m37 := PySem.W.mg_of X G a37
  have F38 := fun_mk (st := s_is_patterned) l38 c38 k38
  have b38 := F38.binds (ps := ["value"]) fun _ _ _ _ _ _ us hl => match us, hl with | [_], _ => rfl
  have m38 := PySem.W.mg_of X G a38
  have F39 := fun_mk (st := s_is_pattern) l39 c39 k39
  have b39 := F39.binds (ps := ["value"]) fun _ _ _ _ _ _ us hl => match us, hl with | [_], _ => rfl
  have m39 := PySem.W.mg_of X G a39
  have F40 := fun_mk (st := s_is_model) l40 c40 k40
  have b40 := F40.binds (ps := ["value"]) fun _ _ _ _ _ _ us hl => match us, hl with | [_], _ => rfl
  have m40 := PySem.W.mg_of X G a40
  have F41 := fun_mk (st := s__law_right) l41 c41 k41
  have b41 := F41.binds (ps := ["_law_well_here"]) fun _ _ _ _ _ _ us hl => match us, hl with | [_], _ => rfl
  have m41 := PySem.W.mg_of X G a41
  have F42 := fun_mk (st := s__law_well) l42 c42 k42
  have b42 := F42.binds (ps := ["_law_script", "_law_spot"]) fun _ _ _ _ _ _ us hl => match us, hl with | [_, _], _ => rfl
  have m42 := PySem.W.mg_of X G a42
  have F43 := fun_mk (st := s_law) l43 c43 k43
  have b43 := F43.binds (ps := ["_law_script"]) fun _ _ _ _ _ _ us hl => match us, hl with | [_], _ => rfl
  have m43 := PySem.W.mg_of X G a43
  refine ⟨c, PySem.W.fnOf "law" "law" (defArgs s_law) (defBody s_law) (defScope s_law) .none kV43 dc43 pm43 an43 cd43 ct43, S_law, rfl, fun s v => .of_eq rfl, fun base _ _ => ?_, fun ns hn => ⟨ns, rfl, hn, rfl⟩⟩
  have cst : ∀ m x, css[m]? = some x → ∃ u v, mg x = some u ∧ RelV v u ∧ (x == ("__debug__" : Str)) = false ∧ (TT.cs m).pure = true ∧ ∀ H, Rp c.toKn none H v (TT.cs m) [] := by
    intro m x hm
    have rNOUGHT : ∀ H : Hp, Rp c.toKn none H (.ref zNOUGHT) (.tup []) [] := fun H => .tup (.inr ⟨_, _, _, lNOUGHT, rfl, rfl, (by show 0 ≤ sizeLine; decide), .nil⟩) .nil
    match m, hm with
    | 0, hm => cases hm; exact ⟨_, .ref zNOUGHT, PySem.W.mg_of X G aNOUGHT, rfl, rfl, rfl, rNOUGHT⟩
    | m + 1, hm => simp [css] at hm
  have bl : ∀ x ∈ bls, mg x = none := by
    intro x hx
    simp only [bls, List.mem_cons, List.not_mem_nil, or_false] at hx
    rcases hx with rfl | rfl | rfl | rfl | rfl | rfl | rfl | rfl | rfl | rfl | rfl | rfl | rfl | rfl
    · exact PySem.W.mg_none_of X G z_abs
    · exact PySem.W.mg_none_of X G z_all
    · exact PySem.W.mg_none_of X G z_bool
    · exact PySem.W.mg_none_of X G z_divmod
    · exact PySem.W.mg_none_of X G z_int
    · exact PySem.W.mg_none_of X G z_isinstance
    · exact PySem.W.mg_none_of X G z_len
    · exact PySem.W.mg_none_of X G z_list
    · exact PySem.W.mg_none_of X G z_max
    · exact PySem.W.mg_none_of X G z_min
    · exact PySem.W.mg_none_of X G z_range
    · exact PySem.W.mg_none_of X G z_repr
    · exact PySem.W.mg_none_of X G z_str
    · exact PySem.W.mg_none_of X G z_tuple
  have ers : ∀ g x b, ess[g]? = some (x, b) → ∀ X : Cx, X.prog = l.prog → X.w = w → X.K = c.K → X.mg = mg → X.base = base → HasEr c X x g b := by
    intro g x b hg Y h1 h2 h3 h4 h5
    match g, hg with
    | 0, hg =>
      cases hg
      have T : OexC c.K (c.ca 0) := ⟨⟨_, _, _, _, _, _, _, _, _, _, _, _, _, _, _, e0o, e0r⟩, e0S, e0s, e0t, e0k⟩
      have FI := init_one (P := l.prog) (w := w) (mg := mg) (base := base) (fld := "given") e0I e0C (⟨rfl, rfl, rfl, by decide +kernel, rfl, by decide +kernel, by decide +kernel⟩ : FnScope ["self", "given"] ["self", "given"] (defScope s_ini0)) rfl (by decide +kernel) (by decide +kernel) rfl rfl rfl rfl T e0f
      have FB := (fun_mk (st := s_ini0) e0I e0C e0K).binds (ps := ["self", "given"]) fun _ _ _ _ _ _ us hl => match us, hl with | [_, _], _ => rfl
      exact er_one (by rw [h4]; exact PySem.W.mg_of X G e0a) rfl (by rw [h3]; exact T) (by rw [h3]; exact e0i) (by rw [h3]; exact e0y) (by rw [h1, h2, h3, h4, h5]; exact FI) (by rw [h3]; exact FB) (by rw [h3]; exact ⟨⟨e0g, e0h, e0s, e0d⟩, e0f⟩)
    | g + 1, hg => simp [ess] at hg
  have exms : ∀ g h y b, TT.er g = true → ess[h]? = some (y, b) → PySem.W.exmOne c.K (.ref (c.ca g)) (.ref (c.ca h)) = some (TT.sub g h) := by
    intro g h y b eg eh
    match g, h, eg, eh with
    | 0, 0, _, _ => exact PySem.W.exm_ref e0s e0d e0t x0_0
    | 0, h + 1, _, eh => simp [ess] at eh
    | g + 1, _, eg, _ => simp [TT] at eg
  have fls : ∀ g, TT.er g = true → c.fld g = TT.fl g := by
    intro g eg
    match g, eg with
    | 0, _ => rfl
    | g + 1, eg => simp [TT] at eg
  have kits : ∀ g h y b, TT.er g = true → ess[h]? = some (y, b) → PySem.W.kitOne c.K (.ref (c.ca g)) (.ref (c.ca h)) = some (TT.sub g h) := by
    intro g h y b eg eh
    match g, h, eg, eh with
    | 0, 0, _, _ => exact w0_0
    | 0, h + 1, _, eh => simp [ess] at eh
    | g + 1, _, eg, _ => simp [TT] at eg
  have ebs : ess ≠ [] → ∀ g, TT.er g = true → ∃ x b, ess[g]? = some (x, b) := by
    intro _ g eg
    match g, eg with
    | 0, _ => exact ⟨_, _, rfl⟩
    | g + 1, eg => simp [TT] at eg
  have U0 : Upto fss c TT l.prog w mg base 0 := Upto.zero
  have V0 : UptoK kss kwi c TT l.prog w mg base 0 := UptoK.zero
  have G0 := fn_def (c := c) (T := TT.at 0) F0 f__law_draw t__law_draw (Sx.of (kss := kss) (kwi := kwi) (j := 0) U0 V0 (by decide) rfl rfl rfl (kw_low 0 0 (by decide)) cst bl (fun _ => PySem.W.mg_of X G z_gcd) (fun q => absurd rfl q) (fun g x b h => by cases h) (fun g h y b e q => by cases q) fls (fun g h y b e q => by cases q) (fun q => absurd rfl q)) p__law_draw
  have U1 := U0.succ (x := "_law_draw") rfl G0 b0 k0 m0 rfl
  have V1 := V0.succ (n := 0) fun m x kn h1 h2 => absurd h2 (kw_no m 0 (by decide))
  have G1 := fn_def (c := c) (T := TT.at 1) F1 f__law_pick t__law_pick (Sx.of (kss := kss) (kwi := kwi) (j := 0) U1 V1 (by decide) rfl rfl rfl (kw_low 0 1 (by decide)) cst bl (fun _ => PySem.W.mg_of X G z_gcd) (fun q => absurd rfl q) (fun g x b h => by cases h) (fun g h y b e q => by cases q) fls (fun g h y b e q => by cases q) (fun q => absurd rfl q)) p__law_pick
  have U2 := U1.succ (x := "_law_pick") rfl G1 b1 k1 m1 rfl
  have V2 := V1.succ (n := 1) fun m x kn h1 h2 => absurd h2 (kw_no m 1 (by decide))
  have G2 := fn_def (c := c) (T := TT.at 2) F2 f__law_order_list t__law_order_list (Sx.of (kss := kss) (kwi := kwi) (j := 0) U2 V2 (by decide) rfl rfl rfl (kw_low 0 2 (by decide)) cst bl (fun _ => PySem.W.mg_of X G z_gcd) (fun q => absurd rfl q) (fun g x b h => by cases h) (fun g h y b e q => by cases q) fls (fun g h y b e q => by cases q) (fun q => absurd rfl q)) p__law_order_list
  have U3 := U2.succ (x := "_law_order_list") rfl G2 b2 k2 m2 rfl
  have V3 := V2.succ (n := 2) fun m x kn h1 h2 => absurd h2 (kw_no m 2 (by decide))
  have G3 := fn_def (c := c) (T := TT.at 3) F3 f__law_grid t__law_grid (Sx.of (kss := kss) (kwi := kwi) (j := 0) U3 V3 (by decide) rfl rfl rfl (kw_low 0 3 (by decide)) cst bl (fun _ => PySem.W.mg_of X G z_gcd) (fun q => absurd rfl q) (fun g x b h => by cases h) (fun g h y b e q => by cases q) fls (fun g h y b e q => by cases q) (fun q => absurd rfl q)) p__law_grid
  have U4 := U3.succ (x := "_law_grid") rfl G3 b3 k3 m3 rfl
  have V4 := V3.succ (n := 3) fun m x kn h1 h2 => absurd h2 (kw_no m 3 (by decide))
  have G4 := fn_def (c := c) (T := TT.at 4) F4 f__law_ratio t__law_ratio (Sx.of (kss := kss) (kwi := kwi) (j := 0) U4 V4 (by decide) rfl rfl rfl (kw_low 0 4 (by decide)) cst bl (fun _ => PySem.W.mg_of X G z_gcd) (fun q => absurd rfl q) (fun g x b h => by cases h) (fun g h y b e q => by cases q) fls (fun g h y b e q => by cases q) (fun q => absurd rfl q)) p__law_ratio
  have U5 := U4.succ (x := "_law_ratio") rfl G4 b4 k4 m4 rfl
  have V5 := V4.succ (n := 4) fun m x kn h1 h2 => absurd h2 (kw_no m 4 (by decide))
  have G5 := fn_def (c := c) (T := TT.at 5) F5 f__law_number t__law_number (Sx.of (kss := kss) (kwi := kwi) (j := 0) U5 V5 (by decide) rfl rfl rfl (kw_low 0 5 (by decide)) cst bl (fun _ => PySem.W.mg_of X G z_gcd) (fun q => absurd rfl q) (fun g x b h => by cases h) (fun g h y b e q => by cases q) fls (fun g h y b e q => by cases q) (fun q => absurd rfl q)) p__law_number
  have U6 := U5.succ (x := "_law_number") rfl G5 b5 k5 m5 rfl
  have V6 := V5.succ (n := 5) fun m x kn h1 h2 => absurd h2 (kw_no m 5 (by decide))
  have G6 := fn_def (c := c) (T := TT.at 6) F6 f__law_polynomial t__law_polynomial (Sx.of (kss := kss) (kwi := kwi) (j := 0) U6 V6 (by decide) rfl rfl rfl (kw_low 0 6 (by decide)) cst bl (fun _ => PySem.W.mg_of X G z_gcd) (fun q => absurd rfl q) (fun g x b h => by cases h) (fun g h y b e q => by cases q) fls (fun g h y b e q => by cases q) (fun q => absurd rfl q)) p__law_polynomial
  have U7 := U6.succ (x := "_law_polynomial") rfl G6 b6 k6 m6 rfl
  have V7 := V6.succ (n := 6) fun m x kn h1 h2 => absurd h2 (kw_no m 6 (by decide))
  have G7 := fn_def (c := c) (T := TT.at 7) F7 f__law_sheet t__law_sheet (Sx.of (kss := kss) (kwi := kwi) (j := 0) U7 V7 (by decide) rfl rfl rfl (kw_low 0 7 (by decide)) cst bl (fun _ => PySem.W.mg_of X G z_gcd) (fun q => absurd rfl q) (fun g x b h => by cases h) (fun g h y b e q => by cases q) fls (fun g h y b e q => by cases q) (fun q => absurd rfl q)) p__law_sheet
  have U8 := U7.succ (x := "_law_sheet") rfl G7 b7 k7 m7 rfl
  have V8 := V7.succ (n := 7) fun m x kn h1 h2 => absurd h2 (kw_no m 7 (by decide))
  have G8 := fn_def (c := c) (T := TT.at 8) F8 f__law_odd t__law_odd (Sx.of (kss := kss) (kwi := kwi) (j := 0) U8 V8 (by decide) rfl rfl rfl (kw_low 0 8 (by decide)) cst bl (fun _ => PySem.W.mg_of X G z_gcd) (fun q => absurd rfl q) (fun g x b h => by cases h) (fun g h y b e q => by cases q) fls (fun g h y b e q => by cases q) (fun q => absurd rfl q)) p__law_odd
  have U9 := U8.succ (x := "_law_odd") rfl G8 b8 k8 m8 rfl
  have V9 := V8.succ (n := 8) fun m x kn h1 h2 => absurd h2 (kw_no m 8 (by decide))
  have G9 := fn_def (c := c) (T := TT.at 9) F9 f__law_bent_L1 t__law_bent_L1 (Sx.of (kss := kss) (kwi := kwi) (j := 0) U9 V9 (by decide) rfl rfl rfl (kw_low 0 9 (by decide)) cst bl (fun _ => PySem.W.mg_of X G z_gcd) (fun q => absurd rfl q) (fun g x b h => by cases h) (fun g h y b e q => by cases q) fls (fun g h y b e q => by cases q) (fun q => absurd rfl q)) p__law_bent_L1
  have U10 := U9.succ (x := "_law_bent") rfl G9 b9 k9 m9 rfl
  have V10 := V9.succ (n := 9) fun m x kn h1 h2 => absurd h2 (kw_no m 9 (by decide))
  have G10 := fn_def (c := c) (T := TT.at 10) F10 f__law_bent_L2 t__law_bent_L2 (Sx.of (kss := kss) (kwi := kwi) (j := 0) U10 V10 (by decide) rfl rfl rfl (kw_low 0 10 (by decide)) cst bl (fun _ => PySem.W.mg_of X G z_gcd) (fun q => absurd rfl q) (fun g x b h => by cases h) (fun g h y b e q => by cases q) fls (fun g h y b e q => by cases q) (fun q => absurd rfl q)) p__law_bent_L2
  have U11 := U10.succ (x := "_law_bent") rfl G10 b10 k10 m10 rfl
  have V11 := V10.succ (n := 10) fun m x kn h1 h2 => absurd h2 (kw_no m 10 (by decide))
  have G11 := fn_def (c := c) (T := TT.at 11) F11 f__law_bent_L3 t__law_bent_L3 (Sx.of (kss := kss) (kwi := kwi) (j := 0) U11 V11 (by decide) rfl rfl rfl (kw_low 0 11 (by decide)) cst bl (fun _ => PySem.W.mg_of X G z_gcd) (fun q => absurd rfl q) (fun g x b h => by cases h) (fun g h y b e q => by cases q) fls (fun g h y b e q => by cases q) (fun q => absurd rfl q)) p__law_bent_L3
  have U12 := U11.succ (x := "_law_bent") rfl G11 b11 k11 m11 rfl
  have V12 := V11.succ (n := 11) fun m x kn h1 h2 => absurd h2 (kw_no m 11 (by decide))
  have G12 := fn_def (c := c) (T := TT.at 12) F12 f__law_bent_L4 t__law_bent_L4 (Sx.of (kss := kss) (kwi := kwi) (j := 0) U12 V12 (by decide) rfl rfl rfl (kw_low 0 12 (by decide)) cst bl (fun _ => PySem.W.mg_of X G z_gcd) (fun q => absurd rfl q) (fun g x b h => by cases h) (fun g h y b e q => by cases q) fls (fun g h y b e q => by cases q) (fun q => absurd rfl q)) p__law_bent_L4
  have U13 := U12.succ (x := "_law_bent") rfl G12 b12 k12 m12 rfl
  have V13 := V12.succ (n := 12) fun m x kn h1 h2 => absurd h2 (kw_no m 12 (by decide))
  have G13 := fn_def (c := c) (T := TT.at 13) F13 f__law_bent_L5 t__law_bent_L5 (Sx.of (kss := kss) (kwi := kwi) (j := 0) U13 V13 (by decide) rfl rfl rfl (kw_low 0 13 (by decide)) cst bl (fun _ => PySem.W.mg_of X G z_gcd) (fun q => absurd rfl q) (fun g x b h => by cases h) (fun g h y b e q => by cases q) fls (fun g h y b e q => by cases q) (fun q => absurd rfl q)) p__law_bent_L5
  have U14 := U13.succ (x := "_law_bent") rfl G13 b13 k13 m13 rfl
  have V14 := V13.succ (n := 13) fun m x kn h1 h2 => absurd h2 (kw_no m 13 (by decide))
  have G14 := fn_def (c := c) (T := TT.at 14) F14 f__law_bent_L6 t__law_bent_L6 (Sx.of (kss := kss) (kwi := kwi) (j := 0) U14 V14 (by decide) rfl rfl rfl (kw_low 0 14 (by decide)) cst bl (fun _ => PySem.W.mg_of X G z_gcd) (fun q => absurd rfl q) (fun g x b h => by cases h) (fun g h y b e q => by cases q) fls (fun g h y b e q => by cases q) (fun q => absurd rfl q)) p__law_bent_L6
  have U15 := U14.succ (x := "_law_bent") rfl G14 b14 k14 m14 rfl
  have V15 := V14.succ (n := 14) fun m x kn h1 h2 => absurd h2 (kw_no m 14 (by decide))
  have G15 := fn_def (c := c) (T := TT.at 15) F15 f__law_bent_L7 t__law_bent_L7 (Sx.of (kss := kss) (kwi := kwi) (j := 0) U15 V15 (by decide) rfl rfl rfl (kw_low 0 15 (by decide)) cst bl (fun _ => PySem.W.mg_of X G z_gcd) (fun q => absurd rfl q) (fun g x b h => by cases h) (fun g h y b e q => by cases q) fls (fun g h y b e q => by cases q) (fun q => absurd rfl q)) p__law_bent_L7
  have U16 := U15.succ (x := "_law_bent") rfl G15 b15 k15 m15 rfl
  have V16 := V15.succ (n := 15) fun m x kn h1 h2 => absurd h2 (kw_no m 15 (by decide))
  have G16 := fn_def (c := c) (T := TT.at 16) F16 f__law_bent_L8 t__law_bent_L8 (Sx.of (kss := kss) (kwi := kwi) (j := 0) U16 V16 (by decide) rfl rfl rfl (kw_low 0 16 (by decide)) cst bl (fun _ => PySem.W.mg_of X G z_gcd) (fun q => absurd rfl q) (fun g x b h => by cases h) (fun g h y b e q => by cases q) fls (fun g h y b e q => by cases q) (fun q => absurd rfl q)) p__law_bent_L8
  have U17 := U16.succ (x := "_law_bent") rfl G16 b16 k16 m16 rfl
  have V17 := V16.succ (n := 16) fun m x kn h1 h2 => absurd h2 (kw_no m 16 (by decide))
  have G17 := fn_def (c := c) (T := TT.at 17) F17 f__law_bent_L9 t__law_bent_L9 (Sx.of (kss := kss) (kwi := kwi) (j := 0) U17 V17 (by decide) rfl rfl rfl (kw_low 0 17 (by decide)) cst bl (fun _ => PySem.W.mg_of X G z_gcd) (fun q => absurd rfl q) (fun g x b h => by cases h) (fun g h y b e q => by cases q) fls (fun g h y b e q => by cases q) (fun q => absurd rfl q)) p__law_bent_L9
  have U18 := U17.succ (x := "_law_bent") rfl G17 b17 k17 m17 rfl
  have V18 := V17.succ (n := 17) fun m x kn h1 h2 => absurd h2 (kw_no m 17 (by decide))
  have G18 := fn_def (c := c) (T := TT.at 18) F18 f__law_bent_L10 t__law_bent_L10 (Sx.of (kss := kss) (kwi := kwi) (j := 0) U18 V18 (by decide) rfl rfl rfl (kw_low 0 18 (by decide)) cst bl (fun _ => PySem.W.mg_of X G z_gcd) (fun q => absurd rfl q) (fun g x b h => by cases h) (fun g h y b e q => by cases q) fls (fun g h y b e q => by cases q) (fun q => absurd rfl q)) p__law_bent_L10
  have U19 := U18.succ (x := "_law_bent") rfl G18 b18 k18 m18 rfl
  have V19 := V18.succ (n := 18) fun m x kn h1 h2 => absurd h2 (kw_no m 18 (by decide))
  have G19 := fn_def (c := c) (T := TT.at 19) F19 f__law_is_square t__law_is_square (Sx.of (kss := kss) (kwi := kwi) (j := 0) U19 V19 (by decide) rfl rfl rfl (kw_low 0 19 (by decide)) cst bl (fun _ => PySem.W.mg_of X G z_gcd) (fun q => absurd rfl q) (fun g x b h => by cases h) (fun g h y b e q => by cases q) fls (fun g h y b e q => by cases q) (fun q => absurd rfl q)) p__law_is_square
  have U20 := U19.succ (x := "_law_is_square") rfl G19 b19 k19 m19 rfl
  have V20 := V19.succ (n := 19) fun m x kn h1 h2 => absurd h2 (kw_no m 19 (by decide))
  have G20 := fn_def (c := c) (T := TT.at 20) F20 f__law_is_whole t__law_is_whole (Sx.of (kss := kss) (kwi := kwi) (j := 0) U20 V20 (by decide) rfl rfl rfl (kw_low 0 20 (by decide)) cst bl (fun _ => PySem.W.mg_of X G z_gcd) (fun q => absurd rfl q) (fun g x b h => by cases h) (fun g h y b e q => by cases q) fls (fun g h y b e q => by cases q) (fun q => absurd rfl q)) p__law_is_whole
  have U21 := U20.succ (x := "_law_is_whole") rfl G20 b20 k20 m20 rfl
  have V21 := V20.succ (n := 20) fun m x kn h1 h2 => absurd h2 (kw_no m 20 (by decide))
  have G21 := fn_def (c := c) (T := TT.at 21) F21 f__law_is_grid t__law_is_grid (Sx.of (kss := kss) (kwi := kwi) (j := 0) U21 V21 (by decide) rfl rfl rfl (kw_low 0 21 (by decide)) cst bl (fun _ => PySem.W.mg_of X G z_gcd) (fun q => absurd rfl q) (fun g x b h => by cases h) (fun g h y b e q => by cases q) fls (fun g h y b e q => by cases q) (fun q => absurd rfl q)) p__law_is_grid
  have U22 := U21.succ (x := "_law_is_grid") rfl G21 b21 k21 m21 rfl
  have V22 := V21.succ (n := 21) fun m x kn h1 h2 => absurd h2 (kw_no m 21 (by decide))
  have G22 := fn_def (c := c) (T := TT.at 22) F22 f__law_is_fraction t__law_is_fraction (Sx.of (kss := kss) (kwi := kwi) (j := 0) U22 V22 (by decide) rfl rfl rfl (kw_low 0 22 (by decide)) cst bl (fun _ => PySem.W.mg_of X G z_gcd) (fun q => absurd rfl q) (fun g x b h => by cases h) (fun g h y b e q => by cases q) fls (fun g h y b e q => by cases q) (fun q => absurd rfl q)) p__law_is_fraction
  have U23 := U22.succ (x := "_law_is_fraction") rfl G22 b22 k22 m22 rfl
  have V23 := V22.succ (n := 22) fun m x kn h1 h2 => absurd h2 (kw_no m 22 (by decide))
  have G23 := fn_def (c := c) (T := TT.at 23) F23 f__law_is_polynomial t__law_is_polynomial (Sx.of (kss := kss) (kwi := kwi) (j := 0) U23 V23 (by decide) rfl rfl rfl (kw_low 0 23 (by decide)) cst bl (fun _ => PySem.W.mg_of X G z_gcd) (fun q => absurd rfl q) (fun g x b h => by cases h) (fun g h y b e q => by cases q) fls (fun g h y b e q => by cases q) (fun q => absurd rfl q)) p__law_is_polynomial
  have U24 := U23.succ (x := "_law_is_polynomial") rfl G23 b23 k23 m23 rfl
  have V24 := V23.succ (n := 23) fun m x kn h1 h2 => absurd h2 (kw_no m 23 (by decide))
  have G24 := fn_def (c := c) (T := TT.at 24) F24 f__law_is_sheet t__law_is_sheet (Sx.of (kss := kss) (kwi := kwi) (j := 0) U24 V24 (by decide) rfl rfl rfl (kw_low 0 24 (by decide)) cst bl (fun _ => PySem.W.mg_of X G z_gcd) (fun q => absurd rfl q) (fun g x b h => by cases h) (fun g h y b e q => by cases q) fls (fun g h y b e q => by cases q) (fun q => absurd rfl q)) p__law_is_sheet
  have U25 := U24.succ (x := "_law_is_sheet") rfl G24 b24 k24 m24 rfl
  have V25 := V24.succ (n := 24) fun m x kn h1 h2 => absurd h2 (kw_no m 24 (by decide))
  have G25 := fn_def (c := c) (T := TT.at 25) F25 f__law_orders t__law_orders (Sx.of (kss := kss) (kwi := kwi) (j := 0) U25 V25 (by decide) rfl rfl rfl (kw_low 0 25 (by decide)) cst bl (fun _ => PySem.W.mg_of X G z_gcd) (fun q => absurd rfl q) (fun g x b h => by cases h) (fun g h y b e q => by cases q) fls (fun g h y b e q => by cases q) (fun q => absurd rfl q)) p__law_orders
  have U26 := U25.succ (x := "_law_orders") rfl G25 b25 k25 m25 rfl
  have V26 := V25.succ (n := 25) fun m x kn h1 h2 => absurd h2 (kw_no m 25 (by decide))
  have G26 := fn_def (c := c) (T := TT.at 26) F26 f_is_whole t_is_whole (Sx.of (kss := kss) (kwi := kwi) (j := 0) U26 V26 (by decide) rfl rfl rfl (kw_low 0 26 (by decide)) cst bl (fun _ => PySem.W.mg_of X G z_gcd) (fun q => absurd rfl q) (fun g x b h => by cases h) (fun g h y b e q => by cases q) fls (fun g h y b e q => by cases q) (fun q => absurd rfl q)) p_is_whole
  have U27 := U26.succ (x := "is_whole") rfl G26 b26 k26 m26 rfl
  have V27 := V26.succ (n := 26) fun m x kn h1 h2 => absurd h2 (kw_no m 26 (by decide))
  have G27 := fn_def (c := c) (T := TT.at 27) F27 f_are_wholes t_are_wholes (Sx.of (kss := kss) (kwi := kwi) (j := 0) U27 V27 (by decide) rfl rfl rfl (kw_low 0 27 (by decide)) cst bl (fun _ => PySem.W.mg_of X G z_gcd) (fun q => absurd rfl q) (fun g x b h => by cases h) (fun g h y b e q => by cases q) fls (fun g h y b e q => by cases q) (fun q => absurd rfl q)) p_are_wholes
  have U28 := U27.succ (x := "are_wholes") rfl G27 b27 k27 m27 rfl
  have V28 := V27.succ (n := 27) fun m x kn h1 h2 => absurd h2 (kw_no m 27 (by decide))
  have G28 := fn_def (c := c) (T := TT.at 28) F28 f_divisor_of t_divisor_of (Sx.of (kss := kss) (kwi := kwi) (j := 0) U28 V28 (by decide) rfl rfl rfl (kw_low 0 28 (by decide)) cst bl (fun _ => PySem.W.mg_of X G z_gcd) (fun q => absurd rfl q) (fun g x b h => by cases h) (fun g h y b e q => by cases q) fls (fun g h y b e q => by cases q) (fun q => absurd rfl q)) p_divisor_of
  have U29 := U28.succ (x := "divisor_of") rfl G28 b28 k28 m28 rfl
  have V29 := V28.succ (n := 28) fun m x kn h1 h2 => absurd h2 (kw_no m 28 (by decide))
  have G29 := fn_def (c := c) (T := TT.at 29) F29 f_is_ratio t_is_ratio (Sx.of (kss := kss) (kwi := kwi) (j := 0) U29 V29 (by decide) rfl rfl rfl (kw_low 0 29 (by decide)) cst bl (fun _ => PySem.W.mg_of X G z_gcd) (fun q => absurd rfl q) (fun g x b h => by cases h) (fun g h y b e q => by cases q) fls (fun g h y b e q => by cases q) (fun q => absurd rfl q)) p_is_ratio
  have U30 := U29.succ (x := "is_ratio") rfl G29 b29 k29 m29 rfl
  have V30 := V29.succ (n := 29) fun m x kn h1 h2 => absurd h2 (kw_no m 29 (by decide))
  have G30 := fn_def (c := c) (T := TT.at 30) F30 f_is_poly t_is_poly (Sx.of (kss := kss) (kwi := kwi) (j := 0) U30 V30 (by decide) rfl rfl rfl (kw_low 0 30 (by decide)) cst bl (fun _ => PySem.W.mg_of X G z_gcd) (fun q => absurd rfl q) (fun g x b h => by cases h) (fun g h y b e q => by cases q) fls (fun g h y b e q => by cases q) (fun q => absurd rfl q)) p_is_poly
  have U31 := U30.succ (x := "is_poly") rfl G30 b30 k30 m30 rfl
  have V31 := V30.succ (n := 30) fun m x kn h1 h2 => absurd h2 (kw_no m 30 (by decide))
  have G31 := fn_def (c := c) (T := TT.at 31) F31 f_is_entry t_is_entry (Sx.of (kss := kss) (kwi := kwi) (j := 0) U31 V31 (by decide) rfl rfl rfl (kw_low 0 31 (by decide)) cst bl (fun _ => PySem.W.mg_of X G z_gcd) (fun q => absurd rfl q) (fun g x b h => by cases h) (fun g h y b e q => by cases q) fls (fun g h y b e q => by cases q) (fun q => absurd rfl q)) p_is_entry
  have U32 := U31.succ (x := "is_entry") rfl G31 b31 k31 m31 rfl
  have V32 := V31.succ (n := 31) fun m x kn h1 h2 => absurd h2 (kw_no m 31 (by decide))
  have G32 := fn_def (c := c) (T := TT.at 32) F32 f_is_square_of t_is_square_of (Sx.of (kss := kss) (kwi := kwi) (j := 0) U32 V32 (by decide) rfl rfl rfl (kw_low 0 32 (by decide)) cst bl (fun _ => PySem.W.mg_of X G z_gcd) (fun q => absurd rfl q) (fun g x b h => by cases h) (fun g h y b e q => by cases q) fls (fun g h y b e q => by cases q) (fun q => absurd rfl q)) p_is_square_of
  have U33 := U32.succ (x := "is_square_of") rfl G32 b32 k32 m32 rfl
  have V33 := V32.succ (n := 32) fun m x kn h1 h2 => absurd h2 (kw_no m 32 (by decide))
  have G33 := fn_def (c := c) (T := TT.at 33) F33 f_is_modelled t_is_modelled (Sx.of (kss := kss) (kwi := kwi) (j := 0) U33 V33 (by decide) rfl rfl rfl (kw_low 0 33 (by decide)) cst bl (fun _ => PySem.W.mg_of X G z_gcd) (fun q => absurd rfl q) (fun g x b h => by cases h) (fun g h y b e q => by cases q) fls (fun g h y b e q => by cases q) (fun q => absurd rfl q)) p_is_modelled
  have U34 := U33.succ (x := "is_modelled") rfl G33 b33 k33 m33 rfl
  have V34 := V33.succ (n := 33) fun m x kn h1 h2 => absurd h2 (kw_no m 33 (by decide))
  have G34 := fn_def (c := c) (T := TT.at 34) F34 f_check_model t_check_model (Sx.of (kss := kss) (kwi := kwi) (j := 0) U34 V34 (by decide) rfl rfl rfl (kw_low 0 34 (by decide)) cst bl (fun _ => PySem.W.mg_of X G z_gcd) (fun _ => by decide) ers exms fls kits ebs) p_check_model
  have U35 := U34.succ (x := "check_model") rfl G34 b34 k34 m34 rfl
  have V35 := V34.succ (n := 34) fun m x kn h1 h2 => absurd h2 (kw_no m 34 (by decide))
  have G35 := fn_def (c := c) (T := TT.at 35) F35 f_pattern_by t_pattern_by (Sx.of (kss := kss) (kwi := kwi) (j := 0) U35 V35 (by decide) rfl rfl rfl (kw_low 0 35 (by decide)) cst bl (fun _ => PySem.W.mg_of X G z_gcd) (fun q => absurd rfl q) (fun g x b h => by cases h) (fun g h y b e q => by cases q) fls (fun g h y b e q => by cases q) (fun q => absurd rfl q)) p_pattern_by
  have U36 := U35.succ (x := "pattern_by") rfl G35 b35 k35 m35 rfl
  have V36 := V35.succ (n := 35) fun m x kn h1 h2 => absurd h2 (kw_no m 35 (by decide))
  have G36 := fn_def (c := c) (T := TT.at 36) F36 f_pattern_of t_pattern_of (Sx.of (kss := kss) (kwi := kwi) (j := 0) U36 V36 (by decide) rfl rfl rfl (kw_low 0 36 (by decide)) cst bl (fun _ => PySem.W.mg_of X G z_gcd) (fun q => absurd rfl q) (fun g x b h => by cases h) (fun g h y b e q => by cases q) fls (fun g h y b e q => by cases q) (fun q => absurd rfl q)) p_pattern_of
  have U37 := U36.succ (x := "pattern_of") rfl G36 b36 k36 m36 rfl
  have V37 := V36.succ (n := 36) fun m x kn h1 h2 => absurd h2 (kw_no m 36 (by decide))
  have G37 := fn_def (c := c) (T := TT.at 37) F37 f__law_said t__law_said (Sx.of (kss := kss) (kwi := kwi) (j := 0) U37 V37 (by decide) rfl rfl rfl (kw_low 0 37 (by decide)) cst bl (fun _ => PySem.W.mg_of X G z_gcd) (fun _ => by decide) ers exms fls kits ebs) p__law_said
  have U38 := U37.succ (x := "_law_said") rfl G37 b37 k37 m37 rfl
  have V38 := V37.succ (n := 37) fun m x kn h1 h2 => absurd h2 (kw_no m 37 (by decide))
  have G38 := fn_def (c := c) (T := TT.at 38) F38 f_is_patterned t_is_patterned (Sx.of (kss := kss) (kwi := kwi) (j := 0) U38 V38 (by decide) rfl rfl rfl (kw_low 0 38 (by decide)) cst bl (fun _ => PySem.W.mg_of X G z_gcd) (fun q => absurd rfl q) (fun g x b h => by cases h) (fun g h y b e q => by cases q) fls (fun g h y b e q => by cases q) (fun q => absurd rfl q)) p_is_patterned
  have U39 := U38.succ (x := "is_patterned") rfl G38 b38 k38 m38 rfl
  have V39 := V38.succ (n := 38) fun m x kn h1 h2 => absurd h2 (kw_no m 38 (by decide))
  have G39 := fn_def (c := c) (T := TT.at 39) F39 f_is_pattern t_is_pattern (Sx.of (kss := kss) (kwi := kwi) (j := 0) U39 V39 (by decide) rfl rfl rfl (kw_low 0 39 (by decide)) cst bl (fun _ => PySem.W.mg_of X G z_gcd) (fun q => absurd rfl q) (fun g x b h => by cases h) (fun g h y b e q => by cases q) fls (fun g h y b e q => by cases q) (fun q => absurd rfl q)) p_is_pattern
  have U40 := U39.succ (x := "is_pattern") rfl G39 b39 k39 m39 rfl
  have V40 := V39.succ (n := 39) fun m x kn h1 h2 => by
    match m, h1, h2 with
    | 0, h1, _ => cases h1; exact kw_pick (g := 0) (S := TT.fn 39) (S2 := TT.kw 0) (m1 := 0) (m2 := 1) (pm := [0]) G39 (by decide) k39 m39 rfl (fun us ws h1 h2 => match us, ws, h1, h2 with | [], [_], _, _ => rfl) fun _ _ _ _ _ h => h
    | 1, _, h2 => exact absurd h2 (by decide)
    | m + 2, h1, _ => exact absurd h1 (by simp [kss])
  have G40 := fn_def (c := c) (T := TT.at 40) F40 f_is_model t_is_model (Sx.of (kss := kss) (kwi := kwi) (j := 1) U40 V40 (by decide) rfl rfl rfl (kw_low 1 40 (by decide)) cst bl (fun _ => PySem.W.mg_of X G z_gcd) (fun q => absurd rfl q) (fun g x b h => by cases h) (fun g h y b e q => by cases q) fls (fun g h y b e q => by cases q) (fun q => absurd rfl q)) p_is_model
  have U41 := U40.succ (x := "is_model") rfl G40 b40 k40 m40 rfl
  have V41 := V40.succ (n := 40) fun m x kn h1 h2 => by
    match m, h1, h2 with
    | 0, _, h2 => exact absurd h2 (by decide)
    | 1, h1, _ => cases h1; exact kw_pick (g := 0) (S := TT.fn 40) (S2 := TT.kw 1) (m1 := 0) (m2 := 1) (pm := [0]) G40 (by decide) k40 m40 rfl (fun us ws h1 h2 => match us, ws, h1, h2 with | [], [_], _, _ => rfl) fun _ _ _ _ _ h => h
    | m + 2, h1, _ => exact absurd h1 (by simp [kss])
  have G41 := fn_def (c := c) (T := TT.at 41) F41 f__law_right t__law_right (Sx.of (kss := kss) (kwi := kwi) (j := 2) U41 V41 (by decide) rfl rfl rfl (kw_low 2 41 (by decide)) cst bl (fun _ => PySem.W.mg_of X G z_gcd) (fun q => absurd rfl q) (fun g x b h => by cases h) (fun g h y b e q => by cases q) fls (fun g h y b e q => by cases q) (fun q => absurd rfl q)) p__law_right
  have U42 := U41.succ (x := "_law_right") rfl G41 b41 k41 m41 rfl
  have V42 := V41.succ (n := 41) fun m x kn h1 h2 => absurd h2 (kw_no m 41 (by decide))
  have G42 := fn_def (c := c) (T := TT.at 42) F42 f__law_well t__law_well (Sx.of (kss := kss) (kwi := kwi) (j := 2) U42 V42 (by decide) rfl rfl rfl (kw_low 2 42 (by decide)) cst bl (fun _ => PySem.W.mg_of X G z_gcd) (fun q => absurd rfl q) (fun g x b h => by cases h) (fun g h y b e q => by cases q) fls (fun g h y b e q => by cases q) (fun q => absurd rfl q)) p__law_well
  have U43 := U42.succ (x := "_law_well") rfl G42 b42 k42 m42 rfl
  have V43 := V42.succ (n := 42) fun m x kn h1 h2 => absurd h2 (kw_no m 42 (by decide))
  have G43 := fn_def (c := c) (T := TT.at 43) F43 f_law t_law (Sx.of (kss := kss) (kwi := kwi) (j := 2) U43 V43 (by decide) rfl rfl rfl (kw_low 2 43 (by decide)) cst bl (fun _ => PySem.W.mg_of X G z_gcd) (fun q => absurd rfl q) (fun g x b h => by cases h) (fun g h y b e q => by cases q) fls (fun g h y b e q => by cases q) (fun q => absurd rfl q)) p_law
  exact G43
end K02

set_option Elab.async false
set_option linter.all false
set_option maxRecDepth 100000
set_option maxHeartbeats 8000000
open PySem PySem.W PyProof.Rows
set_option maxRecDepth 100000 in
set_option maxHeartbeats 0 in
theorem PySem.Challenge.cw_hiddenties_k02_whole_models_and_patterns_holds : PySem.Challenge.rw_hiddenties_k02_whole_models_and_patterns.Holds := by
  w_on; o_law; k_head; (case hw => w_witness2)
  k_fill
  refine Ev.end_walk (l := PySem.Challenge.rw_hiddenties_k02_whole_models_and_patterns) (n := 63) (k := 44) (x := "_law_script") rfl (by decide) rfl ⟨rfl, by decide, by decide⟩ (fun w h Y => PySem.W.kIn_of Y) ?F
  case F =>
    intro w mg fa h KX G hmg
    refine' K02.all_mk KX G hmg ?aNOUGHT ?lNOUGHT ?a0 ?l0 ?c0 ?k0 ?a1 ?l1 ?c1 ?k1 ?a2 ?l2 ?c2 ?k2 ?a3 ?l3 ?c3 ?k3 ?a4 ?l4 ?c4 ?k4 ?a5 ?l5 ?c5 ?k5 ?a6 ?l6 ?c6 ?k6 ?a7 ?l7 ?c7 ?k7 ?a8 ?l8 ?c8 ?k8 ?a9 ?l9 ?c9 ?k9 ?a10 ?l10 ?c10 ?k10 ?a11 ?l11 ?c11 ?k11 ?a12 ?l12 ?c12 ?k12 ?a13 ?l13 ?c13 ?k13 ?a14 ?l14 ?c14 ?k14 ?a15 ?l15 ?c15 ?k15 ?a16 ?l16 ?c16 ?k16 ?a17 ?l17 ?c17 ?k17 ?a18 ?l18 ?c18 ?k18 ?a19 ?l19 ?c19 ?k19 ?a20 ?l20 ?c20 ?k20 ?a21 ?l21 ?c21 ?k21 ?a22 ?l22 ?c22 ?k22 ?a23 ?l23 ?c23 ?k23 ?a24 ?l24 ?c24 ?k24 ?a25 ?l25 ?c25 ?k25 ?a26 ?l26 ?c26 ?k26 ?a27 ?l27 ?c27 ?k27 ?a28 ?l28 ?c28 ?k28 ?a29 ?l29 ?c29 ?k29 ?a30 ?l30 ?c30 ?k30 ?a31 ?l31 ?c31 ?k31 ?a32 ?l32 ?c32 ?k32 ?a33 ?l33 ?c33 ?k33 ?a34 ?l34 ?c34 ?k34 ?a35 ?l35 ?c35 ?k35 ?a36 ?l36 ?c36 ?k36 ?a37 ?l37 ?c37 ?k37 ?a38 ?l38 ?c38 ?k38 ?a39 ?l39 ?c39 ?k39 ?a40 ?l40 ?c40 ?k40 ?a41 ?l41 ?c41 ?k41 ?a42 ?l42 ?c42 ?k42 ?a43 ?l43 ?c43 ?k43 ?z_abs ?z_all ?z_bool ?z_divmod ?z_int ?z_isinstance ?z_len ?z_list ?z_max ?z_min ?z_range ?z_repr ?z_str ?z_tuple ?z_gcd ?e0a ?e0o ?e0r ?e0k ?e0s ?e0t ?e0d ?e0S ?e0i ?e0I ?e0C ?e0K ?e0y ?e0g ?e0h ?e0f ?yn ?yt ?w0_0 ?x0_0
    (case aNOUGHT => k_is)
    (case lNOUGHT => k_is)
    (case a0 => k_is)
    (case l0 => k_is)
    (case c0 => k_is)
    (case k0 => k_is)
    (case a1 => k_is)
    (case l1 => k_is)
    (case c1 => k_is)
    (case k1 => k_is)
    (case a2 => k_is)
    (case l2 => k_is)
    (case c2 => k_is)
    (case k2 => k_is)
    (case a3 => k_is)
    (case l3 => k_is)
    (case c3 => k_is)
    (case k3 => k_is)
    (case a4 => k_is)
    (case l4 => k_is)
    (case c4 => k_is)
    (case k4 => k_is)
    (case a5 => k_is)
    (case l5 => k_is)
    (case c5 => k_is)
    (case k5 => k_is)
    (case a6 => k_is)
    (case l6 => k_is)
    (case c6 => k_is)
    (case k6 => k_is)
    (case a7 => k_is)
    (case l7 => k_is)
    (case c7 => k_is)
    (case k7 => k_is)
    (case a8 => k_is)
    (case l8 => k_is)
    (case c8 => k_is)
    (case k8 => k_is)
    (case a9 => k_is)
    (case l9 => k_is)
    (case c9 => k_is)
    (case k9 => k_is)
    (case a10 => k_is)
    (case l10 => k_is)
    (case c10 => k_is)
    (case k10 => k_is)
    (case a11 => k_is)
    (case l11 => k_is)
    (case c11 => k_is)
    (case k11 => k_is)
    (case a12 => k_is)
    (case l12 => k_is)
    (case c12 => k_is)
    (case k12 => k_is)
    (case a13 => k_is)
    (case l13 => k_is)
    (case c13 => k_is)
    (case k13 => k_is)
    (case a14 => k_is)
    (case l14 => k_is)
    (case c14 => k_is)
    (case k14 => k_is)
    (case a15 => k_is)
    (case l15 => k_is)
    (case c15 => k_is)
    (case k15 => k_is)
    (case a16 => k_is)
    (case l16 => k_is)
    (case c16 => k_is)
    (case k16 => k_is)
    (case a17 => k_is)
    (case l17 => k_is)
    (case c17 => k_is)
    (case k17 => k_is)
    (case a18 => k_is)
    (case l18 => k_is)
    (case c18 => k_is)
    (case k18 => k_is)
    (case a19 => k_is)
    (case l19 => k_is)
    (case c19 => k_is)
    (case k19 => k_is)
    (case a20 => k_is)
    (case l20 => k_is)
    (case c20 => k_is)
    (case k20 => k_is)
    (case a21 => k_is)
    (case l21 => k_is)
    (case c21 => k_is)
    (case k21 => k_is)
    (case a22 => k_is)
    (case l22 => k_is)
    (case c22 => k_is)
    (case k22 => k_is)
    (case a23 => k_is)
    (case l23 => k_is)
    (case c23 => k_is)
    (case k23 => k_is)
    (case a24 => k_is)
    (case l24 => k_is)
    (case c24 => k_is)
    (case k24 => k_is)
    (case a25 => k_is)
    (case l25 => k_is)
    (case c25 => k_is)
    (case k25 => k_is)
    (case a26 => k_is)
    (case l26 => k_is)
    (case c26 => k_is)
    (case k26 => k_is)
    (case a27 => k_is)
    (case l27 => k_is)
    (case c27 => k_is)
    (case k27 => k_is)
    (case a28 => k_is)
    (case l28 => k_is)
    (case c28 => k_is)
    (case k28 => k_is)
    (case a29 => k_is)
    (case l29 => k_is)
    (case c29 => k_is)
    (case k29 => k_is)
    (case a30 => k_is)
    (case l30 => k_is)
    (case c30 => k_is)
    (case k30 => k_is)
    (case a31 => k_is)
    (case l31 => k_is)
    (case c31 => k_is)
    (case k31 => k_is)
    (case a32 => k_is)
    (case l32 => k_is)
    (case c32 => k_is)
    (case k32 => k_is)
    (case a33 => k_is)
    (case l33 => k_is)
    (case c33 => k_is)
    (case k33 => k_is)
    (case a34 => k_is)
    (case l34 => k_is)
    (case c34 => k_is)
    (case k34 => k_is)
    (case a35 => k_is)
    (case l35 => k_is)
    (case c35 => k_is)
    (case k35 => k_is)
    (case a36 => k_is)
    (case l36 => k_is)
    (case c36 => k_is)
    (case k36 => k_is)
    (case a37 => k_is)
    (case l37 => k_is)
    (case c37 => k_is)
    (case k37 => k_is)
    (case a38 => k_is)
    (case l38 => k_is)
    (case c38 => k_is)
    (case k38 => k_is)
    (case a39 => k_is)
    (case l39 => k_is)
    (case c39 => k_is)
    (case k39 => k_is)
    (case a40 => k_is)
    (case l40 => k_is)
    (case c40 => k_is)
    (case k40 => k_is)
    (case a41 => k_is)
    (case l41 => k_is)
    (case c41 => k_is)
    (case k41 => k_is)
    (case a42 => k_is)
    (case l42 => k_is)
    (case c42 => k_is)
    (case k42 => k_is)
    (case a43 => k_is)
    (case l43 => k_is)
    (case c43 => k_is)
    (case k43 => k_is)
    (case z_abs => k_is)
    (case z_all => k_is)
    (case z_bool => k_is)
    (case z_divmod => k_is)
    (case z_int => k_is)
    (case z_isinstance => k_is)
    (case z_len => k_is)
    (case z_list => k_is)
    (case z_max => k_is)
    (case z_min => k_is)
    (case z_range => k_is)
    (case z_repr => k_is)
    (case z_str => k_is)
    (case z_tuple => k_is)
    (case z_gcd => k_is)
    (case e0a => k_is)
    (case e0o => first | k_is | rfl)
    (case e0r => first | rfl | k_is | decide +kernel)
    (case e0k => k_is)
    (case e0s => k_is)
    (case e0t => k_is)
    (case e0d => k_is)
    (case e0S => k_is)
    (case e0i => k_is)
    (case e0I => k_is)
    (case e0C => k_is)
    (case e0K => k_is)
    (case e0y => k_is)
    (case e0g => k_is)
    (case e0h => k_is)
    (case e0f => k_is)
    (case yn => k_is)
    (case yt => k_is)
    (case w0_0 => first | rfl | kit_is | k_is)
    (case x0_0 => first | rfl | k_is)

