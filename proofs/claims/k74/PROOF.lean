import PyProof.Rows.All
import Wide.All
import OpenK.AllK
import Wide.FinOn
import HandS.ForMost
import HandS.SetKeys
import HandS.Style
import HandS.DictComp
import HandS.Flt
import HandS.TupAny
import HandS.Gcd
import HandS.SortOrd
import HandS.SortRule
import HandS.Keys
import HandS.SetBool
import HandS.SortInts
import HandS.Deep
import KE.KDictDisplayH
import KE.DataMinMax
import PySem.Challenge.RW_binworks_k74_whole_slack_causes_and_late
set_option Elab.async false
set_option linter.all false
set_option maxRecDepth 100000
set_option maxHeartbeats 4000000
namespace Pw
open PySem PySem.Spec PyProof.Rows L2

/-- plain data -/
inductive D where
  | non | bl (b : Bool) | int (i : Int) | str (x : Str)
  | tup (ds : List D) | lst (ds : List D)
  | dk (es : List (Key × D)) | dt (es : List (List Key × D))
  | scr (ns : List Int) | bx

/-- a tree of what may still be changed, with plain data at its leaves -/
inductive T where
  | st (d : D)
  | vl (ts : List T)
  | vk (es : List (Key × T))
  | vt (es : List (List Key × T))

mutual
inductive Rep (K : PySem.W.Frag) (b : Option Addr) (F : Hp) : V → D → Prop
  | non : Rep K b F .non .non
  | bl (c : Bool) : Rep K b F (.bl c) (.bl c)
  | int (i : Int) : Rep K b F (.int i) (.int i)
  | str (x : Str) : Rep K b F (.str x) (.str x)
  | tup {a : Addr} {vs : List V} {ds : List D} : F a = some (.tup vs) → Reps K b F vs ds → Rep K b F (.ref a) (.tup ds)
  | lst {a : Addr} {vs : List V} {ds : List D} : F a = some (.lst vs) → Reps K b F vs ds → Rep K b F (.ref a) (.lst ds)
  | dk {a : Addr} {kvs : List (Key × V)} {es : List (Key × D)} : F a = some (.dK kvs) → kvs.map (·.1) = es.map (·.1) → Reps K b F (kvs.map (·.2)) (es.map (·.2)) → Rep K b F (.ref a) (.dk es)
  | dt {a : Addr} {kvs : List (List Key × V)} {es : List (List Key × D)} : F a = some (.dT kvs) → kvs.map (·.1) = es.map (·.1) → Reps K b F (kvs.map (·.2)) (es.map (·.2)) → Rep K b F (.ref a) (.dt es)
  | scr {a : Addr} {ns : List Int} : SqL K F a (ns.map V.int) → Rep K b F (.ref a) (.scr ns)
  | bx {a : Addr} : b = some a → Rep K b F (.ref a) .bx
inductive Reps (K : PySem.W.Frag) (b : Option Addr) (F : Hp) : List V → List D → Prop
  | nil : Reps K b F [] []
  | cons {v : V} {vs : List V} {d : D} {ds : List D} : Rep K b F v d → Reps K b F vs ds → Reps K b F (v :: vs) (d :: ds)
end

mutual
inductive RepT (K : PySem.W.Frag) (b : Option Addr) (F H : Hp) : V → T → List Addr → Prop
  | st {v : V} {d : D} : Rep K b F v d → RepT K b F H v (.st d) []
  | vl {a : Addr} {vs : List V} {ts : List T} {f : List Addr} : F a = none → H a = some (.lst vs) → RepTs K b F H vs ts f → RepT K b F H (.ref a) (.vl ts) (a :: f)
  | vk {a : Addr} {kvs : List (Key × V)} {es : List (Key × T)} {f : List Addr} : F a = none → H a = some (.dK kvs) → kvs.map (·.1) = es.map (·.1) → RepTs K b F H (kvs.map (·.2)) (es.map (·.2)) f → RepT K b F H (.ref a) (.vk es) (a :: f)
  | vt {a : Addr} {kvs : List (List Key × V)} {es : List (List Key × T)} {f : List Addr} : F a = none → H a = some (.dT kvs) → kvs.map (·.1) = es.map (·.1) → RepTs K b F H (kvs.map (·.2)) (es.map (·.2)) f → RepT K b F H (.ref a) (.vt es) (a :: f)
inductive RepTs (K : PySem.W.Frag) (b : Option Addr) (F H : Hp) : List V → List T → List Addr → Prop
  | nil : RepTs K b F H [] [] []
  | cons {v : V} {vs : List V} {t : T} {ts : List T} {f g : List Addr} : RepT K b F H v t f → RepTs K b F H vs ts g → RepTs K b F H (v :: vs) (t :: ts) (f ++ g)
end
abbrev Env := List (Option T)
inductive EnvR (K : PySem.W.Frag) (b : Option Addr) (F H : Hp) : L2.St → Env → List Addr → Prop
  | nil : EnvR K b F H [] [] []
  | no {x : Option V} {σ : L2.St} {env : Env} {f : List Addr} : EnvR K b F H σ env f → EnvR K b F H (x :: σ) (none :: env) f
  | yes {v : V} {t : T} {σ : L2.St} {env : Env} {f g : List Addr} : RepT K b F H v t f → EnvR K b F H σ env g → EnvR K b F H (some v :: σ) (some t :: env) (f ++ g)

/-- the box of the law: a dict of a list of ints and a number -/
def BoxAt (K : PySem.W.Frag) (F H : Hp) (a : Addr) : Prop := F a = none ∧ ∃ (r : Addr) (ns : List Int) (n : Int),
  H a = some (.dK [(.inr "row", .ref r), (.inr "at", .int n)]) ∧ SqL K F r (ns.map V.int) ∧ ns ≠ [] ∧ ns.length ≤ 1000 ∧ 0 ≤ n

structure Stp (K : PySem.W.Frag) (b : Option Addr) (F H F' H' : Hp) : Prop where
  ff : Same F F'
  sub : Same F' H'
  hh : ∀ a o, H a = some o → b ≠ some a → H' a = some o
  dm : ∀ a o, H a = some o → ∃ o', H' a = some o'
  fk : ∀ a o, H a = some o → F' a = F a
  bx : ∀ a, b = some a → BoxAt K F H a → BoxAt K F' H' a

section
variable {K : PySem.W.Frag} {b : Option Addr} {F H F' H' F'' H'' F0 H0 : Hp} {v : V} {vs : List V} {d : D} {ds : List D} {t : T} {ts : List T} {f g fp : List Addr} {σ : L2.St} {env : Env} {a p : Addr} {o : HO}

theorem Stp.refl (e : Same F H) : Stp K b F H F H := ⟨fun _ _ h => h, e, fun _ _ h _ => h, fun _ _ h => ⟨_, h⟩, fun _ _ _ => rfl, fun _ _ h => h⟩
theorem Stp.trans (x : Stp K b F H F' H') (y : Stp K b F' H' F'' H'') : Stp K b F H F'' H'' := by
  refine ⟨fun a o h => y.ff a o (x.ff a o h), y.sub, fun a o h n => y.hh a o (x.hh a o h n) n, fun a o h => ?_, fun a o h => ?_, fun a e h => y.bx a e (x.bx a e h)⟩
  · obtain ⟨o', h'⟩ := x.dm a o h
    exact y.dm a o' h'
  · obtain ⟨o', h'⟩ := x.dm a o h
    rw [y.fk a o' h', x.fk a o h]
theorem same_seq {K : PySem.W.Frag} {xs : List V} (e : Same F F') (h : SqL K F a xs) : SqL K F' a xs := e.seq h
theorem Stp.new (e : Same F H) (n : H p = none) : Stp K b F H (upd F p o) (upd H p o) := by
  have fn : F p = none := e.free n
  have s1 : Same F (upd F p o) := fun c u h => by rw [upd_ne (ne_of_none h fn)]; exact h
  refine ⟨s1, fun c u h => ?_, fun c u h _ => ?_, fun c u h => ⟨u, ?_⟩, fun c u h => ?_, fun c _ h => ?_⟩
  · by_cases q : c = p
    · subst q; rw [upd_same] at h ⊢; exact h
    · rw [upd_ne q] at h ⊢; exact e _ _ h
  · rw [upd_ne (ne_of_none h n)]; exact h
  · rw [upd_ne (ne_of_none h n)]; exact h
  · rw [upd_ne (ne_of_none h n)]
  · obtain ⟨h0, r, ns, k, h1, h2, h3⟩ := h
    have q : c ≠ p := ne_of_none h1 n
    refine ⟨by rw [upd_ne q]; exact h0, r, ns, k, by rw [upd_ne q]; exact h1, s1.seq h2, h3⟩

mutual
theorem Rep.mono (e : Same F F') : ∀ {v : V} {d : D}, Rep K b F v d → Rep K b F' v d
  | _, _, .non => .non
  | _, _, .bl c => .bl c
  | _, _, .int i => .int i
  | _, _, .str x => .str x
  | _, _, .tup h r => .tup (e _ _ h) (Reps.mono e r)
  | _, _, .lst h r => .lst (e _ _ h) (Reps.mono e r)
  | _, _, .dk h k r => .dk (e _ _ h) k (Reps.mono e r)
  | _, _, .dt h k r => .dt (e _ _ h) k (Reps.mono e r)
  | _, _, .scr h => .scr (e.seq h)
  | _, _, .bx h => .bx h
theorem Reps.mono (e : Same F F') : ∀ {vs : List V} {ds : List D}, Reps K b F vs ds → Reps K b F' vs ds
  | _, _, .nil => .nil
  | _, _, .cons h r => .cons (Rep.mono e h) (Reps.mono e r)
end
/-- what a tree leans on: the plain part grows, its own objects stay -/
def Keeps (F H F' H' : Hp) (f : List Addr) : Prop := Same F F' ∧ ∀ a ∈ f, F' a = F a ∧ H' a = H a
mutual
theorem RepT.keep (e : Same F F') : ∀ {v : V} {t : T} {f : List Addr}, RepT K b F H v t f → (∀ a ∈ f, F' a = F a ∧ H' a = H a) → RepT K b F' H' v t f
  | _, _, _, .st h, _ => .st (h.mono e)
  | _, _, _, .vl h1 h2 r, k => .vl (by rw [(k _ (.head _)).1]; exact h1) (by rw [(k _ (.head _)).2]; exact h2) (RepTs.keep e r fun a m => k a (.tail _ m))
  | _, _, _, .vk h1 h2 h3 r, k => .vk (by rw [(k _ (.head _)).1]; exact h1) (by rw [(k _ (.head _)).2]; exact h2) h3 (RepTs.keep e r fun a m => k a (.tail _ m))
  | _, _, _, .vt h1 h2 h3 r, k => .vt (by rw [(k _ (.head _)).1]; exact h1) (by rw [(k _ (.head _)).2]; exact h2) h3 (RepTs.keep e r fun a m => k a (.tail _ m))
theorem RepTs.keep (e : Same F F') : ∀ {vs : List V} {ts : List T} {f : List Addr}, RepTs K b F H vs ts f → (∀ a ∈ f, F' a = F a ∧ H' a = H a) → RepTs K b F' H' vs ts f
  | _, _, _, .nil, _ => .nil
  | _, _, _, .cons h r, k => .cons (RepT.keep e h fun a m => k a (List.mem_append_left _ m)) (RepTs.keep e r fun a m => k a (List.mem_append_right _ m))
end
theorem EnvR.keep (e : Same F F') : ∀ {σ : L2.St} {env : Env} {f : List Addr}, EnvR K b F H σ env f → (∀ a ∈ f, F' a = F a ∧ H' a = H a) → EnvR K b F' H' σ env f
  | _, _, _, .nil, _ => .nil
  | _, _, _, .no r, k => .no (EnvR.keep e r k)
  | _, _, _, .yes h r, k => .yes (h.keep e fun a m => k a (List.mem_append_left _ m)) (EnvR.keep e r fun a m => k a (List.mem_append_right _ m))
mutual
theorem RepT.known : ∀ {v : V} {t : T} {f : List Addr}, RepT K b F H v t f → ∀ a ∈ f, F a = none ∧ ∃ o, H a = some o
  | _, _, _, .st _, _, m => by cases m
  | _, _, _, .vl h1 h2 r, a, m => by
    rcases List.mem_cons.mp m with rfl | m
    · exact ⟨h1, _, h2⟩
    · exact RepTs.known r a m
  | _, _, _, .vk h1 h2 _ r, a, m => by
    rcases List.mem_cons.mp m with rfl | m
    · exact ⟨h1, _, h2⟩
    · exact RepTs.known r a m
  | _, _, _, .vt h1 h2 _ r, a, m => by
    rcases List.mem_cons.mp m with rfl | m
    · exact ⟨h1, _, h2⟩
    · exact RepTs.known r a m
theorem RepTs.known : ∀ {vs : List V} {ts : List T} {f : List Addr}, RepTs K b F H vs ts f → ∀ a ∈ f, F a = none ∧ ∃ o, H a = some o
  | _, _, _, .nil, _, m => by cases m
  | _, _, _, .cons h r, a, m => by
    rcases List.mem_append.mp m with m | m
    · exact RepT.known h a m
    · exact RepTs.known r a m
end
theorem EnvR.known : ∀ {σ : L2.St} {env : Env} {f : List Addr}, EnvR K b F H σ env f → ∀ a ∈ f, F a = none ∧ ∃ o, H a = some o
  | _, _, _, .nil, _, m => by cases m
  | _, _, _, .no r, a, m => EnvR.known r a m
  | _, _, _, .yes h r, a, m => by
    rcases List.mem_append.mp m with m | m
    · exact h.known a m
    · exact EnvR.known r a m
theorem RepT.step (h : RepT K b F H v t f) (S : Stp K b F H F' H') (hb : ∀ a ∈ f, b ≠ some a) : RepT K b F' H' v t f := by
  refine h.keep S.ff fun a m => ?_
  obtain ⟨_, o, e⟩ := h.known a m
  exact ⟨S.fk a o e, by rw [e]; exact S.hh a o e (hb a m)⟩
theorem RepTs.step (h : RepTs K b F H vs ts f) (S : Stp K b F H F' H') (hb : ∀ a ∈ f, b ≠ some a) : RepTs K b F' H' vs ts f := by
  refine h.keep S.ff fun a m => ?_
  obtain ⟨_, o, e⟩ := h.known a m
  exact ⟨S.fk a o e, by rw [e]; exact S.hh a o e (hb a m)⟩
theorem EnvR.step (h : EnvR K b F H σ env f) (S : Stp K b F H F' H') (hb : ∀ a ∈ f, b ≠ some a) : EnvR K b F' H' σ env f := by
  refine h.keep S.ff fun a m => ?_
  obtain ⟨_, o, e⟩ := h.known a m
  exact ⟨S.fk a o e, by rw [e]; exact S.hh a o e (hb a m)⟩

structure Ok (K : PySem.W.Frag) (b : Option Addr) (F0 H0 F H : Hp) (σ : L2.St) (env : Env) : Prop where
  st : Stp K b F0 H0 F H
  bx : ∀ a, b = some a → BoxAt K F H a
  ev : ∃ fp, EnvR K b F H σ env fp ∧ fp.Nodup ∧ ∀ a ∈ fp, H0 a = none ∧ b ≠ some a
theorem Ok.step (O : Ok K b F0 H0 F H σ env) (S : Stp K b F H F' H') : Ok K b F0 H0 F' H' σ env := by
  obtain ⟨fp, r, n, k⟩ := O.ev
  exact ⟨O.st.trans S, fun a e => S.bx a e (O.bx a e), fp, r.step S fun a m => (k a m).2, n, k⟩
theorem Ok.same (O : Ok K b F0 H0 F H σ env) : Same F H := O.st.sub
theorem EnvR.get : ∀ {σ : L2.St} {env : Env} {fp : List Addr} {i : Nat} {t : T}, EnvR K b F H σ env fp → env[i]? = some (some t) → ∃ v f, σ[i]? = some (some v) ∧ RepT K b F H v t f ∧ ∀ a ∈ f, a ∈ fp
  | _, _, _, _, _, .nil, h => by simp at h
  | _, _, _, 0, _, .no r, h => by simp at h
  | _, _, _, i + 1, _, .no r, h => by
    obtain ⟨v, f, h1, h2, h3⟩ := EnvR.get (i := i) r (by simpa using h)
    exact ⟨v, f, by simpa using h1, h2, h3⟩
  | _, _, _, 0, _, .yes h0 r, h => by
    simp at h
    subst h
    exact ⟨_, _, rfl, h0, fun a m => List.mem_append_left _ m⟩
  | _, _, _, i + 1, _, .yes h0 r, h => by
    obtain ⟨v, f, h1, h2, h3⟩ := EnvR.get (i := i) r (by simpa using h)
    exact ⟨v, f, by simpa using h1, h2, fun a m => List.mem_append_right _ (h3 a m)⟩
theorem EnvR.length : ∀ {σ : L2.St} {env : Env} {fp : List Addr}, EnvR K b F H σ env fp → σ.length = env.length
  | _, _, _, .nil => rfl
  | _, _, _, .no r => by simp [EnvR.length r]
  | _, _, _, .yes _ r => by simp [EnvR.length r]
/-- a slot is set: what it held is given up; what is new is the new tree's -/
theorem EnvR.set : ∀ {σ : L2.St} {env : Env} {fp : List Addr} {v : V} {t : T} {f : List Addr} (i : Nat), EnvR K b F H σ env fp → RepT K b F H v t f → fp.Nodup → f.Nodup → (∀ a ∈ f, a ∉ fp) →
    ∃ fp', EnvR K b F H (σ.set i (some v)) (env.set i (some t)) fp' ∧ fp'.Nodup ∧ ∀ a ∈ fp', a ∈ fp ∨ a ∈ f
  | _, _, _, _, _, _, _, .nil, _, _, _, _ => ⟨[], .nil, List.nodup_nil, fun a m => by cases m⟩
  | _, _, fp, v, t, f, 0, .no r, h, n, n2, d => ⟨f ++ fp, .yes h r, List.nodup_append.mpr ⟨n2, n, fun a m c m' e => d a m (e ▸ m')⟩, fun a m => (List.mem_append.mp m).symm⟩
  | _, _, _, v, t, f, 0, .yes (f := f1) (g := g) h0 r, h, n, n2, d => by
    refine ⟨f ++ g, .yes h r, List.nodup_append.mpr ⟨n2, (List.nodup_append.mp n).2.1, fun a m c m' e => d a m (List.mem_append_right _ (e ▸ m'))⟩, fun a m => ?_⟩
    rcases List.mem_append.mp m with m | m
    · exact .inr m
    · exact .inl (List.mem_append_right _ m)
  | _, _, _, v, t, f, i + 1, .no r, h, n, n2, d => by
    obtain ⟨fp', r', n', k⟩ := EnvR.set i r h n n2 d
    exact ⟨fp', .no r', n', k⟩
  | _, _, _, v, t, f, i + 1, .yes (f := f1) (g := g) h0 r, h, n, n2, d => by
    obtain ⟨m1, m2, m3⟩ := List.nodup_append.mp n
    obtain ⟨fp', r', n', k⟩ := EnvR.set i r h m2 n2 fun a m m' => d a m (List.mem_append_right _ m')
    refine ⟨f1 ++ fp', .yes h0 r', List.nodup_append.mpr ⟨m1, n', fun a m c m' e => ?_⟩, fun a m => ?_⟩
    · subst e
      rcases k a m' with q | q
      · exact m3 a m a q rfl
      · exact d a q (List.mem_append_left _ m)
    · rcases List.mem_append.mp m with m | m
      · exact .inl (List.mem_append_left _ m)
      · rcases k a m with q | q
        · exact .inl (List.mem_append_right _ q)
        · exact .inr q
theorem Ok.get (O : Ok K b F0 H0 F H σ env) {i : Nat} (h : env[i]? = some (some t)) : ∃ v f, σ[i]? = some (some v) ∧ RepT K b F H v t f ∧ ∀ a ∈ f, b ≠ some a := by
  obtain ⟨fp, r, _, k⟩ := O.ev
  obtain ⟨v, f, h1, h2, h3⟩ := r.get h
  exact ⟨v, f, h1, h2, fun a m => (k a (h3 a m)).2⟩
/-- plain data into a slot -/
theorem Ok.setD (O : Ok K b F0 H0 F H σ env) (i : Nat) (h : Rep K b F v d) : Ok K b F0 H0 F H (σ.set i (some v)) (env.set i (some (.st d))) := by
  obtain ⟨fp, r, n, k⟩ := O.ev
  obtain ⟨fp', r', n', k'⟩ := r.set i (.st h) n List.nodup_nil fun a m => by cases m
  exact ⟨O.st, O.bx, fp', r', n', fun a m => (k' a m).elim (k a) fun q => by cases q⟩
/-- a new tree into a slot -/
theorem Ok.setN (O : Ok K b F0 H0 F H σ env) (S : Stp K b F H F' H') (i : Nat) (h : RepT K b F' H' v t f) (nf : f.Nodup) (new : ∀ a ∈ f, H a = none) : Ok K b F0 H0 F' H' (σ.set i (some v)) (env.set i (some t)) := by
  have O' := O.step S
  obtain ⟨fp, r, n, k⟩ := O.ev
  have r1 := r.step S fun a m => (k a m).2
  obtain ⟨fp', r', n', k'⟩ := r1.set i h n nf fun a m m' => by
    obtain ⟨_, o, e⟩ := r.known a m'
    rw [new a m] at e
    cases e
  refine ⟨O'.st, O'.bx, fp', r', n', fun a m => (k' a m).elim (k a) fun q => ⟨?_, fun e => ?_⟩⟩
  · cases e : H0 a with
    | none => rfl
    | some o =>
      obtain ⟨o', e'⟩ := O.st.dm a o e
      rw [new a q] at e'
      cases e'
  · obtain ⟨_, r, ns, m, e1, _⟩ := O.bx a e
    rw [new a q] at e1
    cases e1
end
end Pw
namespace Pw
open PySem PySem.Spec PyProof.Rows L2

mutual
def T.erase : T → D
  | .st d => d
  | .vl ts => .lst (erases ts)
  | .vk es => .dk (eraseK es)
  | .vt es => .dt (eraseM es)
def erases : List T → List D
  | [] => []
  | t :: ts => t.erase :: erases ts
def eraseK : List (Key × T) → List (Key × D)
  | [] => []
  | (k, t) :: ts => (k, t.erase) :: eraseK ts
def eraseM : List (List Key × T) → List (List Key × D)
  | [] => []
  | (k, t) :: ts => (k, t.erase) :: eraseM ts
end
theorem erases_map : ∀ ts : List T, erases ts = ts.map T.erase
  | [] => by simp [erases]
  | t :: ts => by simp [erases, erases_map ts]
theorem eraseK_map : ∀ ts : List (Key × T), eraseK ts = ts.map fun p => (p.1, p.2.erase)
  | [] => by simp [eraseK]
  | (k, t) :: ts => by simp [eraseK, eraseK_map ts]
theorem eraseM_map : ∀ ts : List (List Key × T), eraseM ts = ts.map fun p => (p.1, p.2.erase)
  | [] => by simp [eraseM]
  | (k, t) :: ts => by simp [eraseM, eraseM_map ts]
theorem eraseK_fst (es : List (Key × T)) : (eraseK es).map (·.1) = es.map (·.1) := by rw [eraseK_map, List.map_map]; rfl
theorem eraseM_fst (es : List (List Key × T)) : (eraseM es).map (·.1) = es.map (·.1) := by rw [eraseM_map, List.map_map]; rfl
theorem eraseK_snd (es : List (Key × T)) : (eraseK es).map (·.2) = erases (es.map (·.2)) := by rw [eraseK_map, erases_map, List.map_map, List.map_map]; rfl
theorem eraseM_snd (es : List (List Key × T)) : (eraseM es).map (·.2) = erases (es.map (·.2)) := by rw [eraseM_map, erases_map, List.map_map, List.map_map]; rfl
section
variable {K : PySem.W.Frag} {b : Option Addr} {F H F' H' F'' H'' F0 H0 : Hp} {v : V} {vs : List V} {d : D} {ds : List D} {t : T} {ts : List T} {f g fp : List Addr} {σ : L2.St} {env : Env} {a p : Addr} {o : HO}
mutual
theorem RepT.erase (e : Same F F') : ∀ {v : V} {t : T} {f : List Addr}, RepT K b F H v t f → (∀ a ∈ f, F' a = H a) → Rep K b F' v t.erase
  | _, _, _, .st h, _ => by unfold T.erase; exact h.mono e
  | _, _, _, .vl h1 h2 r, k => by unfold T.erase; exact .lst (by rw [k _ (.head _)]; exact h2) (RepTs.erase e r fun a m => k a (.tail _ m))
  | _, _, _, .vk h1 h2 h3 r, k => by unfold T.erase; exact .dk (by rw [k _ (.head _)]; exact h2) (by rw [eraseK_fst]; exact h3) (by rw [eraseK_snd]; exact RepTs.erase e r fun a m => k a (.tail _ m))
  | _, _, _, .vt h1 h2 h3 r, k => by unfold T.erase; exact .dt (by rw [k _ (.head _)]; exact h2) (by rw [eraseM_fst]; exact h3) (by rw [eraseM_snd]; exact RepTs.erase e r fun a m => k a (.tail _ m))
theorem RepTs.erase (e : Same F F') : ∀ {vs : List V} {ts : List T} {f : List Addr}, RepTs K b F H vs ts f → (∀ a ∈ f, F' a = H a) → Reps K b F' vs (erases ts)
  | _, _, _, .nil, _ => by unfold erases; exact .nil
  | _, _, _, .cons h r, k => by unfold erases; exact .cons (RepT.erase e h fun a m => k a (List.mem_append_left _ m)) (RepTs.erase e r fun a m => k a (List.mem_append_right _ m))
end
/-- F with the objects at f as they stand in H -/
def frzF (f : List Addr) (F H : Hp) : Hp := fun a => if a ∈ f then H a else F a
theorem frzF_in (m : a ∈ f) : frzF f F H a = H a := by unfold frzF; rw [if_pos m]
theorem frzF_out (m : a ∉ f) : frzF f F H a = F a := by unfold frzF; rw [if_neg m]
theorem frzF_same (h : ∀ a ∈ f, F a = none) : Same F (frzF f F H) := fun a o e => by
  rw [frzF_out (fun m => by rw [h a m] at e; cases e)]; exact e
theorem frzF_sub (e : Same F H) : Same (frzF f F H) H := fun a o q => by
  by_cases m : a ∈ f
  · rw [frzF_in m] at q; exact q
  · rw [frzF_out m] at q; exact e a o q
theorem RepT.freeze (h : RepT K b F H v t f) : Rep K b (frzF f F H) v t.erase := h.erase (frzF_same fun a m => (h.known a m).1) fun a m => frzF_in m
/-- a new tree is plain data as soon as it is no more changed -/
theorem Stp.freeze (S : Stp K b F H F' H') (h : RepT K b F' H' v t f) (new : ∀ a ∈ f, H a = none) (bo : ∀ a, b = some a → BoxAt K F H a) : Stp K b F H (frzF f F' H') H' := by
  have s1 : Same F' (frzF f F' H') := frzF_same fun a m => (h.known a m).1
  refine ⟨fun a o e => s1 a o (S.ff a o e), frzF_sub S.sub, S.hh, S.dm, fun a o e => ?_, fun a e x => ?_⟩
  · rw [frzF_out (fun m => by rw [new a m] at e; cases e)]; exact S.fk a o e
  · obtain ⟨x0, r, ns, n, x1, x2, x3⟩ := S.bx a e x
    have m : a ∉ f := fun m => by
      obtain ⟨_, r, ns, n, x1, _⟩ := x
      rw [new a m] at x1; cases x1
    exact ⟨by rw [frzF_out m]; exact x0, r, ns, n, x1, s1.seq x2, x3⟩
/-- one slot in the middle of all -/
theorem EnvR.focus : ∀ {σ : L2.St} {env : Env} {fp : List Addr} {i : Nat} {t : T}, EnvR K b F H σ env fp → env[i]? = some (some t) →
    ∃ v l f r, σ[i]? = some (some v) ∧ fp = l ++ (f ++ r) ∧ RepT K b F H v t f ∧ ∀ (F' H' : Hp) (t' : T) (f' : List Addr), Same F F' → (∀ a, a ∈ l ∨ a ∈ r → F' a = F a ∧ H' a = H a) → RepT K b F' H' v t' f' →
      EnvR K b F' H' σ (env.set i (some t')) (l ++ (f' ++ r))
  | _, _, _, _, _, .nil, h => by simp at h
  | _, _, _, 0, _, .no r, h => by simp at h
  | _, _, _, i + 1, _, .no r, h => by
    obtain ⟨v, l, f, r', h1, h2, h3, h4⟩ := EnvR.focus (i := i) r (by simpa using h)
    exact ⟨v, l, f, r', by simpa using h1, h2, h3, fun F' H' t' f' e k q => .no (h4 F' H' t' f' e k q)⟩
  | _, _, _, 0, _, .yes h0 r, h => by
    simp at h
    subst h
    refine ⟨_, [], _, _, rfl, rfl, h0, fun F' H' t' f' e k q => ?_⟩
    rw [List.nil_append]
    exact .yes q (r.keep e fun a m => k a (.inr m))
  | _, _, _, i + 1, _, .yes (f := f1) h0 r, h => by
    obtain ⟨v, l, f, r', h1, h2, h3, h4⟩ := EnvR.focus (i := i) r (by simpa using h)
    refine ⟨v, f1 ++ l, f, r', by simpa using h1, by rw [h2, List.append_assoc], h3, fun F' H' t' f' e k q => ?_⟩
    rw [List.append_assoc]
    exact .yes (h0.keep e fun a m => k a (.inl (List.mem_append_left _ m))) (h4 F' H' t' f' e (fun a m => k a (m.imp (List.mem_append_right _) id)) q)
theorem nodup_mid {l f r f' : List Addr} (n : (l ++ (f ++ r)).Nodup) (n' : f'.Nodup) (d : ∀ a ∈ f', a ∈ f ∨ (a ∉ l ∧ a ∉ r)) : (l ++ (f' ++ r)).Nodup := by
  obtain ⟨a1, a2, a3⟩ := List.nodup_append.mp n
  obtain ⟨b1, b2, b3⟩ := List.nodup_append.mp a2
  refine List.nodup_append.mpr ⟨a1, List.nodup_append.mpr ⟨n', b2, fun x m y m' e => ?_⟩, fun x m y m' e => ?_⟩
  · subst e
    rcases d x m with q | q
    · exact b3 x q x m' rfl
    · exact q.2 m'
  · subst e
    rcases List.mem_append.mp m' with q | q
    · rcases d x q with z | z
      · exact a3 x m x (List.mem_append_left _ z) rfl
      · exact z.1 m
    · exact a3 x m x (List.mem_append_right _ q) rfl
/-- the tree in a slot is changed -/
theorem Ok.mut (O : Ok K b F0 H0 F H σ env) {i : Nat} (h : env[i]? = some (some t)) : ∃ v f, σ[i]? = some (some v) ∧ RepT K b F H v t f ∧ f.Nodup ∧ (∀ a ∈ f, H0 a = none ∧ b ≠ some a) ∧
    ∀ (H' : Hp) (t' : T) (f' : List Addr), (∀ a o, a ∉ f → H a = some o → H' a = some o) → (∀ a ∈ f, ∃ o, H' a = some o) → RepT K b F H' v t' f' → f'.Nodup → (∀ a ∈ f', a ∈ f ∨ H a = none) → Ok K b F0 H0 F H' σ (env.set i (some t')) := by
  obtain ⟨fp, r, n, k⟩ := O.ev
  obtain ⟨v, l, f, r', h1, rfl, h3, h4⟩ := r.focus h
  have nf : f.Nodup := (List.nodup_append.mp (List.nodup_append.mp n).2.1).1
  have kf : ∀ a ∈ f, H0 a = none ∧ b ≠ some a := fun a m => k a (List.mem_append_right _ (List.mem_append_left _ m))
  refine ⟨v, f, h1, h3, nf, kf, fun H' t' f' q1 q2 q3 q4 q5 => ?_⟩
  have sub : Same F H' := fun a o e => q1 a o (fun m => by rw [(h3.known a m).1] at e; cases e) (O.st.sub a o e)
  have dis : ∀ a, a ∈ l ∨ a ∈ r' → a ∉ f := fun a m m' => by
    obtain ⟨a1, a2, a3⟩ := List.nodup_append.mp n
    obtain ⟨b1, b2, b3⟩ := List.nodup_append.mp a2
    rcases m with m | m
    · exact a3 a m a (List.mem_append_left _ m') rfl
    · exact b3 a m' a m rfl
  have kn : ∀ a, a ∈ l ∨ a ∈ r' → ∃ o, H a = some o := fun a m => (r.known a (m.elim (fun z => List.mem_append_left _ z) fun z => List.mem_append_right _ (List.mem_append_right _ z))).2
  refine ⟨⟨O.st.ff, sub, fun a o e nb => ?_, fun a o e => ?_, O.st.fk, fun a e x => ?_⟩, fun a e => ?_, l ++ (f' ++ r'), h4 F H' t' f' (fun _ _ z => z) (fun a m => ⟨rfl, ?_⟩) q3, nodup_mid n q4 fun a m => ?_, fun a m => ?_⟩
  · exact q1 a o (fun m => by rw [(kf a m).1] at e; cases e) (O.st.hh a o e nb)
  · obtain ⟨o', e'⟩ := O.st.dm a o e
    exact ⟨o', q1 a o' (fun m => by rw [(kf a m).1] at e; cases e) e'⟩
  · obtain ⟨x0, r, ns, n, x1, x2⟩ := O.st.bx a e x
    exact ⟨x0, r, ns, n, q1 a _ (fun m => (kf a m).2 e) x1, x2⟩
  · obtain ⟨x0, r, ns, n, x1, x2⟩ := O.bx a e
    exact ⟨x0, r, ns, n, q1 a _ (fun m => (kf a m).2 e) x1, x2⟩
  · obtain ⟨o, e⟩ := kn a m
    rw [e, q1 a o (dis a m) e]
  · rcases q5 a m with z | z
    · exact .inl z
    · refine .inr ⟨fun y => ?_, fun y => ?_⟩
      · obtain ⟨o, e⟩ := kn a (.inl y)
        rw [z] at e; cases e
      · obtain ⟨o, e⟩ := kn a (.inr y)
        rw [z] at e; cases e
  · rcases List.mem_append.mp m with m | m
    · exact k a (List.mem_append_left _ m)
    · rcases List.mem_append.mp m with m | m
      · rcases q5 a m with z | z
        · exact kf a z
        · refine ⟨?_, fun e => ?_⟩
          · cases e : H0 a with
            | none => rfl
            | some o =>
              obtain ⟨o', e'⟩ := O.st.dm a o e
              rw [z] at e'; cases e'
          · obtain ⟨_, r, ns, n, e1, _⟩ := O.bx a e
            rw [z] at e1; cases e1
      · exact k a (List.mem_append_right _ (List.mem_append_right _ m))
/-- the tree in a slot is changed no more -/
theorem Ok.freeze (O : Ok K b F0 H0 F H σ env) {i : Nat} (h : env[i]? = some (some t)) : ∃ F', Same F F' ∧ Ok K b F0 H0 F' H σ (env.set i (some (.st t.erase))) := by
  obtain ⟨fp, r, n, k⟩ := O.ev
  obtain ⟨v, l, f, r', h1, rfl, h3, h4⟩ := r.focus h
  have kf : ∀ a ∈ f, H0 a = none ∧ b ≠ some a := fun a m => k a (List.mem_append_right _ (List.mem_append_left _ m))
  have s1 : Same F (frzF f F H) := frzF_same fun a m => (h3.known a m).1
  have dis : ∀ a, a ∈ l ∨ a ∈ r' → a ∉ f := fun a m m' => by
    obtain ⟨a1, a2, a3⟩ := List.nodup_append.mp n
    obtain ⟨b1, b2, b3⟩ := List.nodup_append.mp a2
    rcases m with m | m
    · exact a3 a m a (List.mem_append_left _ m') rfl
    · exact b3 a m' a m rfl
  refine ⟨frzF f F H, s1, ⟨fun a o e => s1 a o (O.st.ff a o e), frzF_sub O.st.sub, O.st.hh, O.st.dm, fun a o e => ?_, fun a e x => ?_⟩, fun a e => ?_, l ++ ([] ++ r'), h4 _ H (.st t.erase) [] s1 (fun a m => ⟨frzF_out (dis a m), rfl⟩) (.st h3.freeze), nodup_mid n List.nodup_nil (fun a m => by cases m), fun a m => ?_⟩
  · rw [frzF_out (fun m => by rw [(kf a m).1] at e; cases e)]; exact O.st.fk a o e
  · obtain ⟨x0, r, ns, n, x1, x2, x3⟩ := O.st.bx a e x
    exact ⟨by rw [frzF_out (fun m => (kf a m).2 e)]; exact x0, r, ns, n, x1, s1.seq x2, x3⟩
  · obtain ⟨x0, r, ns, n, x1, x2, x3⟩ := O.bx a e
    exact ⟨by rw [frzF_out (fun m => (kf a m).2 e)]; exact x0, r, ns, n, x1, s1.seq x2, x3⟩
  · rcases List.mem_append.mp m with m | m
    · exact k a (List.mem_append_left _ m)
    · exact k a (List.mem_append_right _ (List.mem_append_right _ (by simpa using m)))
/-- slots forgotten -/
def wipeE (env : Env) : List Nat → Env
  | [] => env
  | v :: vs => (wipeE env vs).set v none
theorem EnvR.drop : ∀ {σ : L2.St} {env : Env} {fp : List Addr} (i : Nat), EnvR K b F H σ env fp → ∃ fp', EnvR K b F H (σ.set i none) (env.set i none) fp' ∧ fp'.Sublist fp
  | _, _, _, _, .nil => ⟨[], .nil, .refl _⟩
  | _, _, _, 0, .no r => ⟨_, .no r, .refl _⟩
  | _, _, _, 0, .yes h r => ⟨_, .no r, List.sublist_append_right _ _⟩
  | _, _, _, i + 1, .no r => by
    obtain ⟨fp', r', s⟩ := EnvR.drop i r
    exact ⟨fp', .no r', s⟩
  | _, _, _, i + 1, .yes h r => by
    obtain ⟨fp', r', s⟩ := EnvR.drop i r
    exact ⟨_, .yes h r', s.append_left _⟩
theorem Ok.drop (O : Ok K b F0 H0 F H σ env) (i : Nat) : Ok K b F0 H0 F H (σ.set i none) (env.set i none) := by
  obtain ⟨fp, r, n, k⟩ := O.ev
  obtain ⟨fp', r', s⟩ := r.drop i
  exact ⟨O.st, O.bx, fp', r', n.sublist s, fun a m => k a (s.subset m)⟩
theorem Ok.wipe (O : Ok K b F0 H0 F H σ env) : ∀ vs : List Nat, Ok K b F0 H0 F H (L2.wipe σ vs) (wipeE env vs)
  | [] => O
  | v :: vs => by
    show Ok K b F0 H0 F H ((L2.wipe σ vs).set v none) ((wipeE env vs).set v none)
    exact (Ok.wipe O vs).drop v
end
end Pw
namespace Pw
open PySem PySem.Spec PyProof.Rows L2

/-! ### the plain readings -/
abbrev EW := Env → (T → Prop) → Prop
abbrev TW := Env → (Bool → Prop) → Prop
abbrev AW := Env → (List T → Prop) → Prop
abbrev IW := Env → (List D → Prop) → Prop
abbrev OW := Env → (Option Int → Prop) → Prop
structure EndsW where
  nx : Env → Prop
  rt : D → Prop
  bk : Env → Prop := fun _ => False
  ct : Env → Prop := fun _ => False
  rv : T → Prop := fun _ => False
abbrev SW := EndsW → Env → Prop

def Got (K : PySem.W.Frag) (b : Option Addr) (F H : Hp) (v : V) (t : T) : Prop := ∃ f, RepT K b F H v t f ∧ ∀ a ∈ f, b ≠ some a
def Gots (K : PySem.W.Frag) (b : Option Addr) (F H : Hp) (vs : List V) (ts : List T) : Prop := ∃ f, RepTs K b F H vs ts f ∧ ∀ a ∈ f, b ≠ some a
/-- the heap is fit -/
def Fit (K : PySem.W.Frag) (b : Option Addr) (F H : Hp) : Prop := Same F H ∧ ∀ a, b = some a → BoxAt K F H a

def SoE (K : PySem.W.Frag) (t : TE) (w : EW) : Prop := ∀ (b : Option Addr) (F0 H0 F H : Hp) (σ : L2.St) (env : Env), Ok K b F0 H0 F H σ env → ∀ Q' : T → Prop, w env Q' → ∀ Q : VK,
  (∀ v tt F' H', Stp K b F H F' H' → Got K b F' H' v tt → Q' tt → Q v H') → t σ H Q
/-- the result is new -/
def SoN (K : PySem.W.Frag) (t : TE) (w : EW) : Prop := ∀ (b : Option Addr) (F0 H0 F H : Hp) (σ : L2.St) (env : Env), Ok K b F0 H0 F H σ env → ∀ Q' : T → Prop, w env Q' → ∀ Q : VK,
  (∀ v tt f F' H', Stp K b F H F' H' → RepT K b F' H' v tt f → f.Nodup → (∀ a ∈ f, H a = none) → Q' tt → Q v H') → t σ H Q
def SoT (K : PySem.W.Frag) (t : TT) (w : TW) : Prop := ∀ (b : Option Addr) (F0 H0 F H : Hp) (σ : L2.St) (env : Env), Ok K b F0 H0 F H σ env → ∀ Q' : Bool → Prop, w env Q' → ∀ Q : Bool → Hp → Prop,
  (∀ c F' H', Stp K b F H F' H' → Q' c → Q c H') → t σ H Q
def SoA (K : PySem.W.Frag) (t : TA) (w : AW) : Prop := ∀ (b : Option Addr) (F0 H0 F H : Hp) (σ : L2.St) (env : Env), Ok K b F0 H0 F H σ env → ∀ Q' : List T → Prop, w env Q' → ∀ Q : List V → Hp → Prop,
  (∀ vs ts F' H', Stp K b F H F' H' → Gots K b F' H' vs ts → Q' ts → Q vs H') → t σ H Q
def SoO (K : PySem.W.Frag) (t : TO) (w : OW) : Prop := ∀ (b : Option Addr) (F0 H0 F H : Hp) (σ : L2.St) (env : Env), Ok K b F0 H0 F H σ env → ∀ Q' : Option Int → Prop, w env Q' → ∀ Q : Option Int → Hp → Prop,
  (∀ o F' H', Stp K b F H F' H' → Q' o → Q o H') → t σ H Q
def SoR (K : PySem.W.Frag) (r : R2) (f : T → T → (T → Prop) → Prop) : Prop := ∀ (b : Option Addr) (F H : Hp) (x y : V) (tx ty : T), Fit K b F H → Got K b F H x tx → Got K b F H y ty → ∀ Q' : T → Prop, f tx ty Q' → ∀ Q : VK,
  (∀ v tt F' H', Stp K b F H F' H' → Got K b F' H' v tt → Q' tt → Q v H') → r x y H Q
def SoU (K : PySem.W.Frag) (r : V → Hp → VK → Prop) (f : T → (T → Prop) → Prop) : Prop := ∀ (b : Option Addr) (F H : Hp) (x : V) (tx : T), Fit K b F H → Got K b F H x tx → ∀ Q' : T → Prop, f tx Q' → ∀ Q : VK,
  (∀ v tt F' H', Stp K b F H F' H' → Got K b F' H' v tt → Q' tt → Q v H') → r x H Q
def SoC (K : PySem.W.Frag) (r : List V → Hp → VK → Prop) (f : List T → (T → Prop) → Prop) : Prop := ∀ (b : Option Addr) (F H : Hp) (vs : List V) (ts : List T), Fit K b F H → Gots K b F H vs ts → ∀ Q' : T → Prop, f ts Q' → ∀ Q : VK,
  (∀ v tt F' H', Stp K b F H F' H' → Got K b F' H' v tt → Q' tt → Q v H') → r vs H Q
def SoM (K : PySem.W.Frag) (r : V → List V → Hp → VK → Prop) (f : T → List T → (T → Prop) → Prop) : Prop := ∀ (b : Option Addr) (F H : Hp) (x : V) (tx : T) (vs : List V) (ts : List T), Fit K b F H → Got K b F H x tx → Gots K b F H vs ts → ∀ Q' : T → Prop, f tx ts Q' → ∀ Q : VK,
  (∀ v tt F' H', Stp K b F H F' H' → Got K b F' H' v tt → Q' tt → Q v H') → r x vs H Q

section
variable {K : PySem.W.Frag} {b : Option Addr} {F H F' H' F'' H'' F0 H0 : Hp} {v : V} {vs : List V} {d : D} {ds : List D} {t : T} {ts : List T} {f g fp : List Addr} {σ : L2.St} {env : Env} {a p : Addr} {o : HO}
theorem Got.st (h : Rep K b F v d) : Got K b F H v (.st d) := ⟨[], .st h, fun a m => by cases m⟩
theorem Got.step (h : Got K b F H v t) (S : Stp K b F H F' H') : Got K b F' H' v t := let ⟨f, r, k⟩ := h; ⟨f, r.step S k, k⟩
theorem Gots.step (h : Gots K b F H vs ts) (S : Stp K b F H F' H') : Gots K b F' H' vs ts := let ⟨f, r, k⟩ := h; ⟨f, r.step S k, k⟩
theorem Gots.nil : Gots K b F H [] [] := ⟨[], .nil, fun a m => by cases m⟩
theorem Gots.cons (h : Got K b F H v t) (r : Gots K b F H vs ts) : Gots K b F H (v :: vs) (t :: ts) :=
  let ⟨f, r1, k1⟩ := h; let ⟨g, r2, k2⟩ := r; ⟨f ++ g, .cons r1 r2, fun a m => (List.mem_append.mp m).elim (k1 a) (k2 a)⟩
theorem Gots.inv_nil (h : Gots K b F H vs []) : vs = [] := by obtain ⟨f, r, _⟩ := h; cases r; rfl
theorem Gots.inv_cons (h : Gots K b F H vs (t :: ts)) : ∃ v vs', vs = v :: vs' ∧ Got K b F H v t ∧ Gots K b F H vs' ts := by
  obtain ⟨f, r, k⟩ := h
  cases r with
  | cons r1 r2 => exact ⟨_, _, rfl, ⟨_, r1, fun a m => k a (List.mem_append_left _ m)⟩, ⟨_, r2, fun a m => k a (List.mem_append_right _ m)⟩⟩
theorem Got.inv_st (h : Got K b F H v (.st d)) : Rep K b F v d := by obtain ⟨f, r, _⟩ := h; cases r; assumption
theorem Ok.fit (O : Ok K b F0 H0 F H σ env) : Fit K b F H := ⟨O.same, O.bx⟩
theorem Fit.step (e : Fit K b F H) (S : Stp K b F H F' H') : Fit K b F' H' := ⟨S.sub, fun a q => S.bx a q (e.2 a q)⟩
theorem Fit.refl (e : Fit K b F H) : Stp K b F H F H := .refl e.1
theorem Rep.inv_int {i : Int} (h : Rep K b F v (.int i)) : v = .int i := by cases h; rfl
theorem Rep.inv_bl {c : Bool} (h : Rep K b F v (.bl c)) : v = .bl c := by cases h; rfl
theorem Rep.inv_str {x : Str} (h : Rep K b F v (.str x)) : v = .str x := by cases h; rfl
theorem Rep.inv_non (h : Rep K b F v .non) : v = .non := by cases h; rfl
theorem Rep.inv_tup (h : Rep K b F v (.tup ds)) : ∃ a vs, v = .ref a ∧ F a = some (.tup vs) ∧ Reps K b F vs ds := by cases h; exact ⟨_, _, rfl, by assumption, by assumption⟩
theorem Rep.inv_lst (h : Rep K b F v (.lst ds)) : ∃ a vs, v = .ref a ∧ F a = some (.lst vs) ∧ Reps K b F vs ds := by cases h; exact ⟨_, _, rfl, by assumption, by assumption⟩
theorem Got.int {i : Int} (h : Got K b F H v (.st (.int i))) : v = .int i := h.inv_st.inv_int
theorem Got.bl {c : Bool} (h : Got K b F H v (.st (.bl c))) : v = .bl c := h.inv_st.inv_bl
theorem Got.str {x : Str} (h : Got K b F H v (.st (.str x))) : v = .str x := h.inv_st.inv_str
theorem Reps.length : ∀ {vs : List V} {ds : List D}, Reps K b F vs ds → vs.length = ds.length
  | _, _, .nil => rfl
  | _, _, .cons _ r => by simp [Reps.length r]
theorem RepTs.length : ∀ {vs : List V} {ts : List T} {f : List Addr}, RepTs K b F H vs ts f → vs.length = ts.length
  | _, _, _, .nil => rfl
  | _, _, _, .cons _ r => by simp [RepTs.length r]
theorem Reps.get : ∀ {vs : List V} {ds : List D} {i : Nat} {d : D}, Reps K b F vs ds → ds[i]? = some d → ∃ v, vs[i]? = some v ∧ Rep K b F v d
  | _, _, _, _, .nil, h => by simp at h
  | _, _, 0, _, .cons h r, e => by simp at e; subst e; exact ⟨_, rfl, h⟩
  | _, _, i + 1, _, .cons h r, e => by
    obtain ⟨v, h1, h2⟩ := Reps.get (i := i) r (by simpa using e)
    exact ⟨v, by simpa using h1, h2⟩
theorem RepTs.get : ∀ {vs : List V} {ts : List T} {f : List Addr} {i : Nat} {t : T}, RepTs K b F H vs ts f → ts[i]? = some t → ∃ v g, vs[i]? = some v ∧ RepT K b F H v t g ∧ ∀ a ∈ g, a ∈ f
  | _, _, _, _, _, .nil, h => by simp at h
  | _, _, _, 0, _, .cons h r, e => by simp at e; subst e; exact ⟨_, _, rfl, h, fun a m => List.mem_append_left _ m⟩
  | _, _, _, i + 1, _, .cons h r, e => by
    obtain ⟨v, g, h1, h2, h3⟩ := RepTs.get (i := i) r (by simpa using e)
    exact ⟨v, g, by simpa using h1, h2, fun a m => List.mem_append_right _ (h3 a m)⟩
theorem Reps.gots : ∀ {vs : List V} {ds : List D}, Reps K b F vs ds → Gots K b F H vs (ds.map .st)
  | _, _, .nil => .nil
  | _, _, .cons h r => .cons (.st h) (Reps.gots r)
theorem Gots.reps : ∀ {ds : List D} {vs : List V}, Gots K b F H vs (ds.map .st) → Reps K b F vs ds
  | [], _, h => by rw [h.inv_nil]; exact .nil
  | d :: ds, _, h => by
    obtain ⟨v, vs', rfl, h1, h2⟩ := Gots.inv_cons (t := T.st d) (ts := ds.map .st) h
    exact .cons h1.inv_st (Gots.reps h2)
theorem Reps.append : ∀ {vs ws : List V} {ds es : List D}, Reps K b F vs ds → Reps K b F ws es → Reps K b F (vs ++ ws) (ds ++ es)
  | _, _, _, _, .nil, s => s
  | _, _, _, _, .cons h r, s => .cons h (Reps.append r s)
theorem Reps.take : ∀ {vs : List V} {ds : List D} (n : Nat), Reps K b F vs ds → Reps K b F (vs.take n) (ds.take n)
  | _, _, 0, _ => by simp; exact .nil
  | _, _, n + 1, .nil => by simp; exact .nil
  | _, _, n + 1, .cons h r => by simp; exact .cons h (Reps.take n r)
theorem Reps.drop : ∀ {vs : List V} {ds : List D} (n : Nat), Reps K b F vs ds → Reps K b F (vs.drop n) (ds.drop n)
  | _, _, 0, r => by simpa using r
  | _, _, n + 1, .nil => by simp; exact .nil
  | _, _, n + 1, .cons h r => by simp; exact Reps.drop n r
theorem Reps.reverse : ∀ {vs : List V} {ds : List D}, Reps K b F vs ds → Reps K b F vs.reverse ds.reverse
  | _, _, .nil => .nil
  | _, _, .cons h r => by simp; exact (Reps.reverse r).append (.cons h .nil)
theorem Reps.ints : ∀ {ns : List Int} {vs : List V}, Reps K b F vs (ns.map D.int) → vs = ns.map V.int
  | [], _, h => by cases h; rfl
  | n :: ns, _, h => by cases h with | cons h r => rw [h.inv_int, Reps.ints r]; rfl
theorem Reps.of_ints : ∀ {ns : List Int}, Reps K b F (ns.map V.int) (ns.map D.int)
  | [] => .nil
  | n :: ns => .cons (.int n) Reps.of_ints
theorem Reps.bls : ∀ {ns : List Bool} {vs : List V}, Reps K b F vs (ns.map D.bl) → vs = ns.map V.bl
  | [], _, h => by cases h; rfl
  | n :: ns, _, h => by cases h with | cons h r => rw [h.inv_bl, Reps.bls r]; rfl
theorem Reps.strs : ∀ {ns : List Str} {vs : List V}, Reps K b F vs (ns.map D.str) → vs = ns.map V.str
  | [], _, h => by cases h; rfl
  | n :: ns, _, h => by cases h with | cons h r => rw [h.inv_str, Reps.strs r]; rfl
theorem Reps.of_strs : ∀ {ns : List Str}, Reps K b F (ns.map V.str) (ns.map D.str)
  | [] => .nil
  | n :: ns => .cons (.str n) Reps.of_strs

/-! ### what a tree is, seen -/
/-- the members of a list or a tuple -/
def T.seq? : T → Option (List T)
  | .st (.lst ds) => some (ds.map .st)
  | .st (.tup ds) => some (ds.map .st)
  | .vl ts => some ts
  | _ => none
theorem SqL.up {xs : List V} (e : Same F H) (h : F a = some (.lst xs)) : SqL K H a xs := .inl (.inl (e _ _ h))
theorem SqT.up {xs : List V} (e : Same F H) (h : F a = some (.tup xs)) : SqT K H a xs := .inl (.inl (e _ _ h))
theorem Got.seq (h : Got K b F H v t) (e : Same F H) (q : t.seq? = some ts) : ∃ a vs, v = .ref a ∧ (SqL K H a vs ∨ SqT K H a vs) ∧ Gots K b F H vs ts := by
  obtain ⟨f, r, k⟩ := h
  cases r with
  | st r =>
    cases r with
    | tup h1 h2 => cases q; exact ⟨_, _, rfl, .inr (SqT.up e h1), h2.gots⟩
    | lst h1 h2 => cases q; exact ⟨_, _, rfl, .inl (SqL.up e h1), h2.gots⟩
    | _ => cases q
  | vl h1 h2 h3 => cases q; exact ⟨_, _, rfl, .inl (.inl (.inl h2)), ⟨_, h3, fun a m => k a (.tail _ m)⟩⟩
  | _ => cases q
/-- the members of a list -/
def T.lst? : T → Option (List T)
  | .st (.lst ds) => some (ds.map .st)
  | .vl ts => some ts
  | _ => none
theorem Got.lst (h : Got K b F H v t) (e : Same F H) (q : t.lst? = some ts) : ∃ a vs, v = .ref a ∧ H a = some (.lst vs) ∧ Gots K b F H vs ts := by
  obtain ⟨f, r, k⟩ := h
  cases r with
  | st r =>
    cases r with
    | lst h1 h2 => cases q; exact ⟨_, _, rfl, e _ _ h1, h2.gots⟩
    | _ => cases q
  | vl h1 h2 h3 => cases q; exact ⟨_, _, rfl, h2, ⟨_, h3, fun a m => k a (.tail _ m)⟩⟩
  | _ => cases q
/-- plain members of a list -/
def plainL : List T → Option (List D)
  | [] => some []
  | .st d :: ts => (plainL ts).map (d :: ·)
  | _ => none
theorem plainL_st (ds : List D) : plainL (ds.map .st) = some ds := by
  induction ds with
  | nil => rfl
  | cons d ds ih => simp [plainL, ih]
theorem plainL_eq : ∀ {ts : List T} {ds : List D}, plainL ts = some ds → ts = ds.map .st
  | [], ds, h => by simp [plainL] at h; subst h; rfl
  | .st d :: ts, ds, h => by
    simp only [plainL, Option.map_eq_some_iff] at h
    obtain ⟨es, h1, rfl⟩ := h
    rw [plainL_eq h1]; rfl
  | .vl _ :: _, _, h => by simp [plainL] at h
  | .vk _ :: _, _, h => by simp [plainL] at h
  | .vt _ :: _, _, h => by simp [plainL] at h
def T.dl? (t : T) : Option (List D) := t.lst?.bind plainL
def T.dq? (t : T) : Option (List D) := t.seq?.bind plainL
@[simp] theorem dl_lst (ds : List D) : (T.st (.lst ds)).dl? = some ds := plainL_st ds
@[simp] theorem dl_vl (ds : List D) : (T.vl (ds.map .st)).dl? = some ds := plainL_st ds
@[simp] theorem dq_lst (ds : List D) : (T.st (.lst ds)).dq? = some ds := plainL_st ds
@[simp] theorem dq_tup (ds : List D) : (T.st (.tup ds)).dq? = some ds := plainL_st ds
@[simp] theorem dq_vl (ds : List D) : (T.vl (ds.map .st)).dq? = some ds := plainL_st ds
theorem Got.dl (h : Got K b F H v t) (e : Same F H) (q : t.dl? = some ds) : ∃ a vs, v = .ref a ∧ H a = some (.lst vs) ∧ Reps K b F vs ds := by
  unfold T.dl? at q
  cases q1 : t.lst? with
  | none => rw [q1] at q; cases q
  | some ts =>
    rw [q1] at q
    obtain ⟨a, vs, h1, h2, h3⟩ := h.lst e q1
    have q : plainL ts = some ds := q
    rw [plainL_eq q] at h3
    exact ⟨a, vs, h1, h2, h3.reps⟩
theorem Got.dq (h : Got K b F H v t) (e : Same F H) (q : t.dq? = some ds) : ∃ a vs, v = .ref a ∧ (SqL K H a vs ∨ SqT K H a vs) ∧ Reps K b F vs ds := by
  unfold T.dq? at q
  cases q1 : t.seq? with
  | none => rw [q1] at q; cases q
  | some ts =>
    rw [q1] at q
    obtain ⟨a, vs, h1, h2, h3⟩ := h.seq e q1
    have q : plainL ts = some ds := q
    rw [plainL_eq q] at h3
    exact ⟨a, vs, h1, h2, h3.reps⟩
/-- a flat value -/
def T.fl? : T → Option V
  | .st .non => some .non
  | .st (.bl c) => some (.bl c)
  | .st (.int i) => some (.int i)
  | .st (.str x) => some (.str x)
  | _ => none
theorem Got.fl {x : V} (h : Got K b F H v t) (q : t.fl? = some x) : v = x ∧ flatV x = true := by
  obtain ⟨f, r, k⟩ := h
  cases r with
  | st r => cases r <;> first | (cases q; exact ⟨rfl, rfl⟩) | cases q
  | _ => cases q
def D.fl? : D → Option V
  | .non => some .non
  | .bl c => some (.bl c)
  | .int i => some (.int i)
  | .str x => some (.str x)
  | _ => none
theorem Rep.fl {x : V} (h : Rep K b F v d) (q : d.fl? = some x) : v = x ∧ flatV x = true := by
  cases h <;> first | (cases q; exact ⟨rfl, rfl⟩) | cases q
theorem Reps.fl : ∀ {vs : List V} {ds : List D} {xs : List V}, Reps K b F vs ds → ds.mapM D.fl? = some xs → vs = xs ∧ xs.all flatV = true
  | _, _, _, .nil, h => by simp at h; subst h; exact ⟨rfl, rfl⟩
  | _, _, _, .cons h r, e => by
    rw [List.mapM_cons] at e
    simp only [Option.bind_eq_bind, Option.bind_eq_some_iff, Option.pure_def, Option.some.injEq] at e
    obtain ⟨x, e1, xs, e2, rfl⟩ := e
    obtain ⟨rfl, f1⟩ := h.fl e1
    obtain ⟨rfl, f2⟩ := Reps.fl r e2
    exact ⟨rfl, by simp [f1, f2]⟩
/-! ### expressions -/
variable {ta tb te tc td : TE} {wa wb we wc wd : EW} {tt tu : TT} {wt wu : TW} {r : R2} {fr : T → T → (T → Prop) → Prop}
def wV (i : Nat) : EW := fun env Q => ∃ t, env[i]? = some (some t) ∧ Q t
theorem so_var {i : Nat} : SoE K (tVar i) (wV i) := fun b F0 H0 F H σ env O Q' h Q q => by
  obtain ⟨t, h1, h2⟩ := h
  obtain ⟨v, f, h3, h4, h5⟩ := O.get h1
  exact ⟨v, h3, q v t F H (.refl O.same) ⟨f, h4, h5⟩ h2⟩
def wC (d : D) : EW := fun _ Q => Q (.st d)
theorem so_int {i : Int} : SoE K (tC (.int i)) (wC (.int i)) := fun b F0 H0 F H σ env O Q' h Q q => q _ _ F H (.refl O.same) (.st (.int i)) h
theorem so_str {x : Str} : SoE K (tC (.str x)) (wC (.str x)) := fun b F0 H0 F H σ env O Q' h Q q => q _ _ F H (.refl O.same) (.st (.str x)) h
theorem so_bl {c : Bool} : SoE K (tC (.bl c)) (wC (.bl c)) := fun b F0 H0 F H σ env O Q' h Q q => q _ _ F H (.refl O.same) (.st (.bl c)) h
theorem so_non : SoE K (tC .non) (wC .non) := fun b F0 H0 F H σ env O Q' h Q q => q _ _ F H (.refl O.same) (.st .non) h
def wOp (f : T → T → (T → Prop) → Prop) (wa wb : EW) : EW := fun env Q => wa env fun x => wb env fun y => f x y Q
theorem so_op (ha : SoE K ta wa) (hb : SoE K tb wb) (hr : SoR K r fr) : SoE K (tOp r ta tb) (wOp fr wa wb) := fun b F0 H0 F H σ env O Q' h Q q =>
  ha _ _ _ _ _ _ _ O _ h _ fun x tx F1 H1 S1 g1 h1 => hb _ _ _ _ _ _ _ (O.step S1) _ h1 _ fun y ty F2 H2 S2 g2 h2 =>
    hr b F2 H2 x y tx ty ((O.step S1).step S2).fit (g1.step S2) g2 Q' h2 Q fun v tt F3 H3 S3 g3 h3 => q v tt F3 H3 ((S1.trans S2).trans S3) g3 h3
def wUn (f : T → (T → Prop) → Prop) (wa : EW) : EW := fun env Q => wa env fun x => f x Q
theorem so_un {r : V → Hp → VK → Prop} {f : T → (T → Prop) → Prop} (ha : SoE K ta wa) (hr : SoU K r f) : SoE K (tUn r ta) (wUn f wa) := fun b F0 H0 F H σ env O Q' h Q q =>
  ha _ _ _ _ _ _ _ O _ h _ fun x tx F1 H1 S1 g1 h1 => hr b F1 H1 x tx (O.step S1).fit g1 Q' h1 Q fun v tt F3 H3 S3 g3 h3 => q v tt F3 H3 (S1.trans S3) g3 h3
/-- on two ints -/
def fII (C : Int → Int → Prop) (g : Int → Int → D) : T → T → (T → Prop) → Prop := fun x y Q => ∃ i j, x = .st (.int i) ∧ y = .st (.int j) ∧ C i j ∧ Q (.st (g i j))
theorem sor_I {C : Int → Int → Prop} {g : Int → Int → V} {g' : Int → Int → D} (hg : ∀ b F i j, Rep K b F (g i j) (g' i j)) : SoR K (rI C g) (fII C g') := fun b F H x y tx ty e gx gy Q' h Q q => by
  obtain ⟨i, j, rfl, rfl, c, h⟩ := h
  exact ⟨i, j, gx.int, gy.int, c, q _ _ F H e.refl (.st (hg b F i j)) h⟩
theorem sor_I0 {g : Int → Int → V} {g' : Int → Int → D} (hg : ∀ b F i j, Rep K b F (g i j) (g' i j)) : SoR K (rI0 g) (fII (fun _ _ => True) g') := fun b F H x y tx ty e gx gy Q' h Q q => by
  obtain ⟨i, j, rfl, rfl, _, h⟩ := h
  exact ⟨i, j, gx.int, gy.int, q _ _ F H e.refl (.st (hg b F i j)) h⟩
abbrev fSub := fII (fun _ _ => True) fun i j => .int (i - j)
abbrev fMul := fII CMul fun i j => .int (i * j)
abbrev fDiv := fII CDivN fun i j => .int (i.fdiv j)
abbrev fMod := fII (fun _ j => 0 < j) fun i j => .int (i % j)
abbrev fPow := fII CPow fun i j => .int (i ^ j.toNat)
abbrev fLt := fII (fun _ _ => True) fun i j => .bl (decide (i < j))
abbrev fLe := fII (fun _ _ => True) fun i j => .bl (decide (i ≤ j))
abbrev fGt := fII (fun _ _ => True) fun i j => .bl (decide (j < i))
abbrev fGe := fII (fun _ _ => True) fun i j => .bl (decide (j ≤ i))
theorem sor_sub : SoR K (rI0 fun i j => V.int (i - j)) fSub := sor_I0 fun _ _ _ _ => .int _
theorem sor_mul : SoR K (rI CMul fun i j => V.int (i * j)) fMul := sor_I fun _ _ _ _ => .int _
theorem sor_div : SoR K (rI CDivN fun i j => V.int (i.fdiv j)) fDiv := sor_I fun _ _ _ _ => .int _
theorem sor_mod : SoR K (rI (fun _ j => 0 < j) fun i j => V.int (i % j)) fMod := sor_I fun _ _ _ _ => .int _
theorem sor_pow : SoR K (rI CPow fun i j => V.int (i ^ j.toNat)) fPow := sor_I fun _ _ _ _ => .int _
theorem sor_lt : SoR K (rI0 fun i j => V.bl (decide (i < j))) fLt := sor_I0 fun _ _ _ _ => .bl _
theorem sor_le : SoR K (rI0 fun i j => V.bl (decide (i ≤ j))) fLe := sor_I0 fun _ _ _ _ => .bl _
theorem sor_gt : SoR K (rI0 fun i j => V.bl (decide (j < i))) fGt := sor_I0 fun _ _ _ _ => .bl _
theorem sor_ge : SoR K (rI0 fun i j => V.bl (decide (j ≤ i))) fGe := sor_I0 fun _ _ _ _ => .bl _
/-- + of two ints, two texts, two lists, two tuples -/
def rAdd (K : PySem.W.Frag) : R2 := fun x y H Q => rI0 (fun i j => .int (i + j)) x y H Q ∨ (∃ i j, x = V.str i ∧ y = V.str j ∧ i.length + j.length ≤ sizeLine ∧ Q (V.str (i ++ j)) H) ∨ rCat x y H Q ∨ rCatA K x y H Q
theorem op_addA {X : Cx} : OpR X (binaryOp .Add) (rAdd X.K) := fun pins s σ H x y v u Q I rx ry h => by
  rcases h with h | h | h | h
  · exact op_add pins s σ H x y v u Q I rx ry h
  · exact op_add_str pins s σ H x y v u Q I rx ry h
  · exact op_cat pins s σ H x y v u Q I rx ry h
  · exact op_catA pins s σ H x y v u Q I rx ry h
def fAdd : T → T → (T → Prop) → Prop := fun x y Q => match x, y with
  | .st (.int i), .st (.int j) => Q (.st (.int (i + j)))
  | .st (.str i), .st (.str j) => i.length + j.length ≤ sizeLine ∧ Q (.st (.str (i ++ j)))
  | .st (.tup ds), .st (.tup es) => ds.length + es.length ≤ sizeLine ∧ Q (.st (.tup (ds ++ es)))
  | x, y => ∃ ds es, x.dl? = some ds ∧ y.dl? = some es ∧ ds.length + es.length ≤ sizeLine ∧ Q (.st (.lst (ds ++ es)))
theorem Stp.got_new {vs : List V} (e : Fit K b F H) (n : H p = none) (r : Reps K b F vs ds) : Stp K b F H (upd F p (.lst vs)) (upd H p (.lst vs)) ∧ Got K b (upd F p (.lst vs)) (upd H p (.lst vs)) (.ref p) (.st (.lst ds)) :=
  have S := Stp.new (K := K) (b := b) (o := .lst vs) e.1 n
  ⟨S, .st (.lst upd_same (r.mono S.ff))⟩
theorem Stp.got_newT {vs : List V} (e : Fit K b F H) (n : H p = none) (r : Reps K b F vs ds) : Stp K b F H (upd F p (.tup vs)) (upd H p (.tup vs)) ∧ Got K b (upd F p (.tup vs)) (upd H p (.tup vs)) (.ref p) (.st (.tup ds)) :=
  have S := Stp.new (K := K) (b := b) (o := .tup vs) e.1 n
  ⟨S, .st (.tup upd_same (r.mono S.ff))⟩
theorem sor_add : SoR K (rAdd K) fAdd := fun b F H x y tx ty e gx gy Q' h Q q => by
  have lists : (∃ ds es, tx.dl? = some ds ∧ ty.dl? = some es ∧ ds.length + es.length ≤ sizeLine ∧ Q' (.st (.lst (ds ++ es)))) → rAdd K x y H Q := by
    rintro ⟨ds, es, e1, e2, hl, h⟩
    obtain ⟨a, vs, rfl, h1, r1⟩ := gx.dl e.1 e1
    obtain ⟨c, ws, rfl, h2, r2⟩ := gy.dl e.1 e2
    refine .inr (.inr (.inl ⟨a, c, vs, ws, rfl, rfl, h1, h2, by rw [r1.length, r2.length]; exact hl, fun p hp => ?_⟩))
    obtain ⟨S, g⟩ := Stp.got_new e hp (r1.append r2)
    exact q _ _ _ _ S g h
  unfold fAdd at h
  split at h
  · exact .inl ⟨_, _, gx.int, gy.int, q _ _ F H e.refl (.st (.int _)) h⟩
  · exact .inr (.inl ⟨_, _, gx.str, gy.str, h.1, q _ _ F H e.refl (.st (.str _)) h.2⟩)
  · obtain ⟨hl, h⟩ := h
    obtain ⟨a, vs, rfl, h1, r1⟩ := gx.inv_st.inv_tup
    obtain ⟨c, ws, rfl, h2, r2⟩ := gy.inv_st.inv_tup
    have l1 := r1.length
    have l2 := r2.length
    refine .inr (.inr (.inr ⟨a, c, vs, ws, rfl, rfl, SqT.up e.1 h1, SqT.up e.1 h2, by omega, fun z => ?_, fun _ z => ?_, fun _ _ p hp => ?_⟩))
    · subst z
      cases r1
      exact q _ _ F H e.refl gy h
    · subst z
      cases r2
      rw [List.append_nil] at h
      exact q _ _ F H e.refl gx h
    · obtain ⟨S, g⟩ := Stp.got_newT e hp (r1.append r2)
      exact q _ _ _ _ S g h
  · exact lists h
/-- == and != of scalars -/
def fEq : T → T → (T → Prop) → Prop := fun x y Q => ∃ u v, x.fl? = some u ∧ y.fl? = some v ∧ scal u v = true ∧ Q (.st (.bl (decide (u = v))))
def fNe : T → T → (T → Prop) → Prop := fun x y Q => ∃ u v, x.fl? = some u ∧ y.fl? = some v ∧ scal u v = true ∧ Q (.st (.bl (!decide (u = v))))
theorem sor_eq : SoR K rEq fEq := fun b F H x y tx ty e gx gy Q' h Q q => by
  obtain ⟨u, v, h1, h2, h3, h4⟩ := h
  obtain ⟨rfl, _⟩ := gx.fl h1
  obtain ⟨rfl, _⟩ := gy.fl h2
  exact ⟨h3, q _ _ F H e.refl (.st (.bl _)) h4⟩
theorem sor_ne : SoR K rNe fNe := fun b F H x y tx ty e gx gy Q' h Q q => by
  obtain ⟨u, v, h1, h2, h3, h4⟩ := h
  obtain ⟨rfl, _⟩ := gx.fl h1
  obtain ⟨rfl, _⟩ := gy.fl h2
  exact ⟨h3, q _ _ F H e.refl (.st (.bl _)) h4⟩
/-- is None -/
def fIs (y : T) (Q : T → Prop) (neg : Bool) (x : T) : Prop := y = .st .non ∧ ((x = .st .non ∧ Q (.st (.bl (!neg)))) ∨ ((∀ d, x = .st d → d ≠ .non) ∧ Q (.st (.bl neg))))
def fIsN : T → T → (T → Prop) → Prop := fun x y Q => fIs y Q false x
def fNotN : T → T → (T → Prop) → Prop := fun x y Q => fIs y Q true x
theorem Got.not_non (h : Got K b F H v t) (n : ∀ d, t = .st d → d ≠ .non) : v ≠ .non := by
  obtain ⟨f, r, k⟩ := h
  cases r with
  | st r => cases r <;> first | exact absurd rfl (n _ rfl) | (intro z; cases z)
  | _ => intro z; cases z
theorem sor_isN : SoR K (fun x y H Q => y = V.non ∧ Q (V.bl (decide (x = V.non))) H) fIsN := fun b F H x y tx ty e gx gy Q' h Q q => by
  obtain ⟨rfl, h⟩ := h
  refine ⟨gy.inv_st.inv_non, ?_⟩
  rcases h with ⟨rfl, h⟩ | ⟨n, h⟩
  · rw [gx.inv_st.inv_non]; exact q _ _ F H e.refl (.st (.bl _)) h
  · rw [decide_eq_false (gx.not_non n)]; exact q _ _ F H e.refl (.st (.bl _)) h
theorem sor_notN : SoR K (fun x y H Q => y = V.non ∧ Q (V.bl (!decide (x = V.non))) H) fNotN := fun b F H x y tx ty e gx gy Q' h Q q => by
  obtain ⟨rfl, h⟩ := h
  refine ⟨gy.inv_st.inv_non, ?_⟩
  rcases h with ⟨rfl, h⟩ | ⟨n, h⟩
  · rw [gx.inv_st.inv_non]; exact q _ _ F H e.refl (.st (.bl _)) h
  · rw [decide_eq_false (gx.not_non n)]; exact q _ _ F H e.refl (.st (.bl _)) h
/-- in, not in of flat things -/
def fIn (neg : Bool) : T → T → (T → Prop) → Prop := fun x y Q => ∃ u ds vs, x.fl? = some u ∧ y.dq? = some ds ∧ ds.mapM D.fl? = some vs ∧ Q (.st (.bl (if neg then !inV u vs else inV u vs)))
theorem sor_in {neg : Bool} : SoR K (rIn K neg) (fIn neg) := fun b F H x y tx ty e gx gy Q' h Q q => by
  obtain ⟨u, ds, vs, h1, h2, h3, h4⟩ := h
  obtain ⟨rfl, fx⟩ := gx.fl h1
  obtain ⟨a, ws, rfl, h5, r⟩ := gy.dq e.1 h2
  obtain ⟨rfl, fs⟩ := r.fl h3
  exact ⟨a, ws, rfl, h5, fx, fs, q _ _ F H e.refl (.st (.bl _)) h4⟩
/-- s[i], xs[i], t[i] -/
def fIx : T → T → (T → Prop) → Prop := fun x y Q => ∃ i, y = .st (.int i) ∧
  ((∃ ts u, x.seq? = some ts ∧ atI ts i = some u ∧ Q u) ∨ (∃ z c, x = .st (.str z) ∧ z.length ≤ sizeLine ∧ atI z.cps.toList i = some c ∧ Q (.st (.str ⟨#[c]⟩))))
theorem Gots.length (h : Gots K b F H vs ts) : vs.length = ts.length := by obtain ⟨f, r, _⟩ := h; exact r.length
theorem Gots.get {i : Nat} (h : Gots K b F H vs ts) (e : ts[i]? = some t) : ∃ v, vs[i]? = some v ∧ Got K b F H v t := by
  obtain ⟨f, r, k⟩ := h
  obtain ⟨v, g, h1, h2, h3⟩ := r.get e
  exact ⟨v, h1, g, h2, fun a m => k a (h3 a m)⟩
theorem Gots.atI {i : Int} (h : Gots K b F H vs ts) (e : L2.atI ts i = some t) : ∃ v, L2.atI vs i = some v ∧ Got K b F H v t := by
  unfold L2.atI at e ⊢
  rw [h.length]
  cases q : ixN ts.length i with
  | none => rw [q] at e; cases e
  | some j =>
    rw [q] at e
    have e : ts[j]? = some t := e
    obtain ⟨v, h1, h2⟩ := h.get e
    exact ⟨v, h1, h2⟩
theorem sor_ix : SoR K (rIx K) fIx := fun b F H x y tx ty e gx gy Q' h Q q => by
  obtain ⟨i, rfl, h⟩ := h
  rcases h with ⟨ts, u, h1, h2, h3⟩ | ⟨z, c, rfl, h1, h2, h3⟩
  · obtain ⟨a, vs, rfl, h4, h5⟩ := gx.seq e.1 h1
    obtain ⟨v, h6, h7⟩ := h5.atI h2
    rcases h4 with h4 | h4
    · exact .inl ⟨a, vs, i, v, rfl, gy.int, h4, h6, q _ _ F H e.refl h7 h3⟩
    · exact .inr (.inl ⟨a, vs, i, v, rfl, gy.int, h4, h6, q _ _ F H e.refl h7 h3⟩)
  · exact .inr (.inr ⟨z, i, c, gx.str, gy.int, h1, h2, q _ _ F H e.refl (.st (.str _)) h3⟩)
theorem sou_neg : SoU K (rU fun i => V.int (-i)) (fun x Q => ∃ i, x = .st (.int i) ∧ Q (.st (.int (-i)))) := fun b F H x tx e gx Q' h Q q => by
  obtain ⟨i, rfl, h⟩ := h
  exact ⟨i, gx.int, q _ _ F H e.refl (.st (.int _)) h⟩
def fNeg : T → (T → Prop) → Prop := fun x Q => ∃ i, x = .st (.int i) ∧ Q (.st (.int (-i)))
/-! ### tests -/
def wTest (we : EW) : TW := fun env Q => we env fun t => ∃ c, t = .st (.bl c) ∧ Q c
theorem so_test (h : SoE K te we) : SoT K (tTest te) (wTest we) := fun b F0 H0 F H σ env O Q' h1 Q q =>
  h _ _ _ _ _ _ _ O _ h1 _ fun v tt F1 H1 S1 g1 ⟨c, e, h2⟩ => ⟨c, by subst e; exact g1.bl, q c F1 H1 S1 h2⟩
theorem so_B (h : SoE K te we) : SoT K (tB te) (wTest we) := so_test h
def wAnd (wt wu : TW) : TW := fun env Q => wt env fun c => if c = true then wu env Q else Q false
theorem so_and (h : SoT K tt wt) (h' : SoT K tu wu) : SoT K (tAnd tt tu) (wAnd wt wu) := fun b F0 H0 F H σ env O Q' h1 Q q =>
  h _ _ _ _ _ _ _ O _ h1 _ fun c F1 H1 S1 h2 => by
    cases c with
    | true => exact h' _ _ _ _ _ _ _ (O.step S1) _ h2 _ fun c F2 H2 S2 h3 => q c F2 H2 (S1.trans S2) h3
    | false => exact q false F1 H1 S1 h2
def wOr (wt wu : TW) : TW := fun env Q => wt env fun c => if c = true then Q true else wu env Q
theorem so_or (h : SoT K tt wt) (h' : SoT K tu wu) : SoT K (tOr tt tu) (wOr wt wu) := fun b F0 H0 F H σ env O Q' h1 Q q =>
  h _ _ _ _ _ _ _ O _ h1 _ fun c F1 H1 S1 h2 => by
    cases c with
    | true => exact q true F1 H1 S1 h2
    | false => exact h' _ _ _ _ _ _ _ (O.step S1) _ h2 _ fun c F2 H2 S2 h3 => q c F2 H2 (S1.trans S2) h3
def wNot (wt : TW) : TW := fun env Q => wt env fun c => Q (!c)
theorem so_not (h : SoT K tt wt) : SoT K (tNot tt) (wNot wt) := fun b F0 H0 F H σ env O Q' h1 Q q =>
  h _ _ _ _ _ _ _ O _ h1 _ fun c F1 H1 S1 h2 => q (!c) F1 H1 S1 h2
/-- a list's (tuple's) truth -/
def wTru (we : EW) : TW := fun env Q => we env fun t => ∃ ts, t.seq? = some ts ∧ Q (!ts.isEmpty)
theorem so_tru (h : SoE K te we) : SoT K (fun σ H Q => te σ H fun x H' => ∃ k, TruV K x H' k ∧ Q k H') (wTru we) := fun b F0 H0 F H σ env O Q' h1 Q q =>
  h _ _ _ _ _ _ _ O _ h1 _ fun v tt F1 H1 S1 g1 ⟨ts, e, h2⟩ => by
    obtain ⟨a, vs, rfl, h3, h4⟩ := g1.seq S1.sub e
    have el : vs.isEmpty = ts.isEmpty := by
      have := h4.length
      cases vs <;> cases ts <;> first | rfl | simp at this
    refine ⟨!ts.isEmpty, ?_, q _ F1 H1 S1 h2⟩
    rcases h3 with h3 | h3
    · exact .inl ⟨vs, h3, by rw [el]⟩
    · exact .inr (.inl ⟨vs, h3, by rw [el]⟩)
def wIf (wt : TW) (wa wb : EW) : EW := fun env Q => wt env fun c => if c = true then wa env Q else wb env Q
theorem so_if (h : SoT K tt wt) (ha : SoE K ta wa) (hb : SoE K tb wb) : SoE K (tIf tt ta tb) (wIf wt wa wb) := fun b F0 H0 F H σ env O Q' h1 Q q =>
  h _ _ _ _ _ _ _ O _ h1 _ fun c F1 H1 S1 h2 => by
    cases c with
    | true => exact ha _ _ _ _ _ _ _ (O.step S1) _ h2 _ fun v t F2 H2 S2 g2 h3 => q v t F2 H2 (S1.trans S2) g2 h3
    | false => exact hb _ _ _ _ _ _ _ (O.step S1) _ h2 _ fun v t F2 H2 S2 g2 h3 => q v t F2 H2 (S1.trans S2) g2 h3
/-! ### arguments, displays -/
def wNil : AW := fun _ Q => Q []
theorem so_nil : SoA K tNil wNil := fun b F0 H0 F H σ env O Q' h Q q => q [] [] F H (.refl O.same) .nil h
def wCons (we : EW) (wr : AW) : AW := fun env Q => we env fun t => wr env fun ts => Q (t :: ts)
theorem so_cons {tr : TA} {wr : AW} (h : SoE K te we) (hr : SoA K tr wr) : SoA K (tCons te tr) (wCons we wr) := fun b F0 H0 F H σ env O Q' h1 Q q =>
  h _ _ _ _ _ _ _ O _ h1 _ fun v t F1 H1 S1 g1 h2 => hr _ _ _ _ _ _ _ (O.step S1) _ h2 _ fun vs ts F2 H2 S2 g2 h3 =>
    q (v :: vs) (t :: ts) F2 H2 (S1.trans S2) (.cons (g1.step S2) g2) h3
variable {tr : TA} {wr : AW}
def wTup (wr : AW) : EW := fun env Q => wr env fun ts => ∃ ds, plainL ts = some ds ∧ ds.length ≤ 1000 ∧ Q (.st (.tup ds))
theorem so_tup (h : SoA K tr wr) : SoE K (tTup tr) (wTup wr) := fun b F0 H0 F H σ env O Q' h1 Q q =>
  h _ _ _ _ _ _ _ O _ h1 _ fun vs ts F1 H1 S1 g1 ⟨ds, e, hl, h2⟩ => by
    rw [plainL_eq e] at g1
    have r := g1.reps
    refine ⟨by rw [r.length]; exact Nat.le_of_lt (small1000 hl), fun p hp => ?_⟩
    obtain ⟨S, g⟩ := Stp.got_newT (O.step S1).fit hp r
    exact q _ _ _ _ (S1.trans S) g h2
/-- a new list -/
def wLst (wr : AW) : EW := fun env Q => wr env fun ts => ∃ ds, plainL ts = some ds ∧ ds.length ≤ 1000 ∧ Q (.vl (ds.map .st))
theorem Stp.skip (e : Fit K b F H) (n : H p = none) : Stp K b F H F (upd H p o) := by
  refine ⟨fun _ _ z => z, fun c u h => ?_, fun c u h _ => ?_, fun c u h => ⟨u, ?_⟩, fun c u h => rfl, fun c _ h => ?_⟩
  · rw [upd_ne (ne_of_none (e.1 _ _ h) n)]; exact e.1 _ _ h
  · rw [upd_ne (ne_of_none h n)]; exact h
  · rw [upd_ne (ne_of_none h n)]; exact h
  · obtain ⟨h0, r, ns, k, h1, h2, h3⟩ := h
    exact ⟨h0, r, ns, k, by rw [upd_ne (ne_of_none h1 n)]; exact h1, h2, h3⟩
theorem Reps.repTs : ∀ {vs : List V} {ds : List D}, Reps K b F vs ds → RepTs K b F H vs (ds.map .st) []
  | _, _, .nil => .nil
  | _, _, .cons h r => by
    have := RepTs.cons (K := K) (b := b) (F := F) (H := H) (.st h) (Reps.repTs r)
    simpa using this
theorem so_lst (h : SoA K tr wr) : SoN K (tLst tr) (wLst wr) := fun b F0 H0 F H σ env O Q' h1 Q q =>
  h _ _ _ _ _ _ _ O _ h1 _ fun vs ts F1 H1 S1 g1 ⟨ds, e, hl, h2⟩ => by
    rw [plainL_eq e] at g1
    have r := g1.reps
    refine ⟨by rw [r.length]; exact Nat.le_of_lt (small1000 hl), fun p hp => ?_⟩
    have O1 := (O.step S1).fit
    refine q _ _ [p] F1 _ (S1.trans (.skip O1 hp)) (.vl (O1.1.free hp) upd_same r.repTs) (by simp) (fun a m => ?_) h2
    rw [List.mem_singleton.mp m]
    cases e : H p with
    | none => rfl
    | some o =>
      obtain ⟨o', e'⟩ := S1.dm p o e
      rw [hp] at e'; cases e'
/-- a new tree taken as plain data -/
def wFz (we : EW) : EW := fun env Q => we env fun t => Q (.st t.erase)
theorem so_fz (h : SoN K te we) : SoE K te (wFz we) := fun b F0 H0 F H σ env O Q' h1 Q q =>
  h _ _ _ _ _ _ _ O _ h1 _ fun v t f F1 H1 S1 r1 n1 new h2 => q v (.st t.erase) (frzF f F1 H1) H1 (S1.freeze r1 new O.bx) (.st r1.freeze) h2
/-- plain data as a new tree -/
def wNw (we : EW) : EW := fun env Q => we env fun t => ∃ d, t = .st d ∧ Q (.st d)
theorem so_nw (h : SoE K te we) : SoN K te (wNw we) := fun b F0 H0 F H σ env O Q' h1 Q q =>
  h _ _ _ _ _ _ _ O _ h1 _ fun v t F1 H1 S1 g1 ⟨d, e, h2⟩ => by
    subst e
    exact q v (.st d) [] F1 H1 S1 (.st g1.inv_st) List.nodup_nil (fun a m => by cases m) h2
/-- {} -/
def wDk : EW := fun _ Q => Q (.vk [])
theorem so_dnewK : SoN K tDNewK wDk := fun b F0 H0 F H σ env O Q' h Q q => fun p hp =>
  q _ _ [p] F _ (.skip O.fit hp) (.vk (es := []) (O.same.free hp) upd_same rfl .nil) (by simp) (fun a m => by rw [List.mem_singleton.mp m]; exact hp) h
def wDt : EW := fun _ Q => Q (.vt [])
theorem so_dnewT : SoN K tDNewT wDt := fun b F0 H0 F H σ env O Q' h Q q => fun p hp =>
  q _ _ [p] F _ (.skip O.fit hp) (.vt (es := []) (O.same.free hp) upd_same rfl .nil) (by simp) (fun a m => by rw [List.mem_singleton.mp m]; exact hp) h
end
end Pw
namespace Pw
open PySem PySem.Spec PyProof.Rows L2

/-! ### rules by values, for lists, tuples, texts and dicts alike -/
section
variable {X : Cx}
theorem OpR.or {f : Value → Value → Sem Value} {r r' : R2} (h : OpR X f r) (h' : OpR X f r') : OpR X f (fun x y H Q => r x y H Q ∨ r' x y H Q) := fun pins s σ H x y v u Q I rx ry q => by
  rcases q with q | q
  · exact h pins s σ H x y v u Q I rx ry q
  · exact h' pins s σ H x y v u Q I rx ry q
theorem CallR.or {f : Value} {r r' : List V → Hp → VK → Prop} (h : CallR X f r) (h' : CallR X f r') : CallR X f (fun vs H Q => r vs H Q ∨ r' vs H Q) := fun pins s σ H xs us Q I rx q => by
  rcases q with q | q
  · exact h pins s σ H xs us Q I rx q
  · exact h' pins s σ H xs us Q I rx q
/-- d[y] by values -/
def rDG : R2 := fun x y H Q => ∃ a v, x = .ref a ∧ DGet H a y (some v) ∧ Q v H
theorem ix_dict (hu : X.A.units + 1 < cLine) : IxR X rDG := fun value slice pins s σ H x y v u Q I rx ry h hs => by
  obtain ⟨a, w', rfl, g, q⟩ := h
  obtain rfl : v = Value.ref a := rx
  have hT := dict_typeIs I g
  have h2 := d_getItem hu I g ry (E := X.xe) (Q := EP X pins σ Q) fun w' s3 I3 rw' => ⟨_, H, I3, rw', q⟩
  unfold subscriptTail
  refine wpAny_bind ?_
  rw [getitemInPython_of_ne hT.not_modules]
  refine wpAny_bind (wpAny_specialOf hT PySem.F.slot_dict_getitem.lookup ?_)
  have fin : wpAny (model X.prog X.w) X.A (subscripted slice false (.ref a) u) (fun r s₃ => wpAny (model X.prog X.w) X.A (letTemporaryGo value (.ref a) r >>= fun _ => pure r) (EP X pins σ Q) X.xe s₃) X.xe s := by
    rw [hs]
    exact wpAny_operating (wpAny_mono h2 (fun r s₃ h₃ => wpAny_bind (wpAny_letTemporaryGo (wpAny_pure h₃))) fun _ _ x => x)
  first
    | exact wpAny_pure (wpAny_bind fin)
    | exact wpAny_bind (wpAny_pure (wpAny_bind fin))
    | exact wpAny_bind fin
def rGetA (K : PySem.W.Frag) : R2 := fun x y H Q => rIx K x y H Q ∨ rDG x y H Q
theorem ix_any (hu : X.A.units + 1 < cLine) : IxR X (rGetA X.K) := fun value slice pins s σ H x y v u Q I rx ry h hs => by
  rcases h with h | h
  · exact ix_seq value slice pins s σ H x y v u Q I rx ry h hs
  · exact ix_dict hu value slice pins s σ H x y v u Q I rx ry h hs
def rDIn (neg : Bool) : R2 := fun x y H Q => ∃ a o, y = .ref a ∧ DGet H a x o ∧ Q (.bl (if neg then !o.isSome else o.isSome)) H
theorem op_din (hu : X.A.units + 1 < cLine) : OpR X (compareOp .In) (rDIn false) := fun pins s σ H x y v u Q I rx ry h => by
  obtain ⟨a, o, rfl, g, q⟩ := h
  obtain rfl : u = Value.ref a := ry
  exact d_in hu I g rx fun s3 I3 => ⟨.bl o.isSome, H, I3, rfl, q⟩
theorem op_dnotin (hu : X.A.units + 1 < cLine) : OpR X (compareOp .NotIn) (rDIn true) := fun pins s σ H x y v u Q I rx ry h => by
  obtain ⟨a, o, rfl, g, q⟩ := h
  obtain rfl : u = Value.ref a := ry
  exact d_notIn hu I g rx fun s3 I3 => ⟨.bl (!o.isSome), H, I3, rfl, q⟩
def rInA (K : PySem.W.Frag) (neg : Bool) : R2 := fun x y H Q => rIn K neg x y H Q ∨ rDIn neg x y H Q
theorem op_inA (hu : X.A.units + 1 < cLine) : OpR X (compareOp .In) (rInA X.K false) := OpR.or op_in_seq (op_din hu)
theorem op_notInA (hu : X.A.units + 1 < cLine) : OpR X (compareOp .NotIn) (rInA X.K true) := OpR.or op_notIn_seq (op_dnotin hu)
def rEqA (K : PySem.W.Frag) : R2 := fun x y H Q => rEq x y H Q ∨ rEqD K x y H Q
def rNeA (K : PySem.W.Frag) : R2 := fun x y H Q => rNe x y H Q ∨ rNeD K x y H Q
theorem op_eqA (hu : X.A.units + 64 < cLine) : OpR X (compareOp .Eq) (rEqA X.K) := OpR.or op_eq (op_eqD hu)
theorem op_neA (hu : X.A.units + 64 < cLine) : OpR X (compareOp .NotEq) (rNeA X.K) := OpR.or op_ne (op_neD hu)
/-- o[i] = v of a list or a dict -/
def rSetA : TSet := fun o i v H Q => rSetL o i v H Q ∨ ∃ a H', o = .ref a ∧ DPut H a i v H' ∧ Q H'
theorem set_any (hu : X.A.units + 1 < cLine) : PSet X rSetA := fun pins s σ H o i v ov iv u Q I ro ri rv h => by
  rcases h with h | ⟨a, H', rfl, g, q⟩
  · exact set_list pins s σ H o i v ov iv u Q I ro ri rv h
  · obtain rfl : ov = Value.ref a := ro
    exact d_setItem hu I g ri rv fun s4 I4 => ⟨H', I4, q⟩
/-- a list or a tuple, walked -/
def iSeq (K : PySem.W.Frag) (tl : TE) : TI := fun σ H R => tl σ H fun x H1 => ∃ a, x = .ref a ∧ (((∃ xs, SqL K H1 a xs) ∧ R (Itl K a) H1) ∨ ((∃ xs, SqT K H1 a xs) ∧ R (Itt K a) H1))
theorem pi_seq {tg l : Expr} {tl : TE} (hl : PE X l tl) : PI X tg l (iSeq X.K tl) := by
  refine ⟨fun pins s σ H R I h => ?_⟩
  refine thn (hl.run pins s σ H _ I h) fun v s1 ⟨x, H1, I1, r1, q1⟩ => ?_
  obtain ⟨a, e, q1⟩ := q1
  subst e
  cases r1
  rcases q1 with ⟨⟨xs, hq⟩, q⟩ | ⟨⟨xs, hq⟩, q⟩
  · obtain ⟨its, rv, p, hz⟩ := I1.list hq
    refine wpAny_pyIter_list p.isList ?_
    refine ⟨s1.heap.objs.size, [s1.heap.objs.size], _, _, H1, rfl, I1.kept (t' := s1.toks) fun b o e => Heap.get?_push_of_some _ e, turn_list a _, ⟨_, Heap.get?_push_size _ rfl, rfl, rfl⟩, fun b hb => ?_, q⟩
    have e : b = s1.heap.objs.size := by simpa using hb
    subst e
    exact I1.fpOk (Nat.le_refl _) (I1.hok.fresh (Nat.le_refl _))
  · obtain ⟨its, rv, p, hz⟩ := I1.tuple hq
    refine wpAny_pyIter_tuple (show s1.heap.IsTuple a its.toArray from p) ?_
    refine ⟨s1.heap.objs.size, [s1.heap.objs.size], _, _, H1, rfl, I1.kept (t' := s1.toks) fun b o e => Heap.get?_push_of_some _ e, turn_tuple a _, ⟨_, Heap.get?_push_size _ rfl, rfl, rfl⟩, fun b hb => ?_, q⟩
    have e : b = s1.heap.objs.size := by simpa using hb
    subst e
    exact I1.fpOk (Nat.le_refl _) (I1.hok.fresh (Nat.le_refl _))
end

section
variable {K : PySem.W.Frag} {b : Option Addr} {F H F' H' F'' H'' F0 H0 : Hp} {v : V} {vs : List V} {d : D} {ds : List D} {t : T} {ts : List T} {f g fp : List Addr} {σ : L2.St} {env : Env} {a p : Addr} {o : HO}
variable {ta tb te tc td ty tx : TE} {wa wb we wc wd wk wx : EW} {tt tu : TT} {wt wu : TW} {r : R2} {fr : T → T → (T → Prop) → Prop} {tr : TA} {wr : AW}
/-! ### dicts -/
def kK : D → Option Key
  | .int i => some (.inl i)
  | .str x => some (.inr x)
  | _ => none
def kM : D → Option (List Key)
  | .tup ds => ds.mapM kK
  | _ => none
def look {κ α : Type} [DecidableEq κ] (es : List (κ × α)) (k : κ) : Option α := (es.find? fun p => decide (p.1 = k)).map (·.2)
/-- what stands under a key, none: no dict, or no key of its kind -/
def T.get? : T → D → Option (Option T)
  | .st (.dk es), k => (kK k).map fun k => (look es k).map .st
  | .vk es, k => (kK k).map fun k => look es k
  | .st (.dt es), k => (kM k).map fun k => (look es k).map .st
  | .vt es, k => (kM k).map fun k => look es k
  | _, _ => none
def T.isD : T → Bool
  | .st (.dk _) => true
  | .vk _ => true
  | .st (.dt _) => true
  | .vt _ => true
  | _ => false
theorem Rep.kK {k : Key} (h : Rep K b F v d) (e : kK d = some k) : v = kV k := by
  cases h <;> simp [Pw.kK] at e
  · subst e; rfl
  · subst e; rfl
theorem Reps.kKs : ∀ {vs : List V} {ds : List D} {ks : List Key}, Reps K b F vs ds → ds.mapM Pw.kK = some ks → vs = ks.map kV
  | _, _, _, .nil, h => by simp at h; subst h; rfl
  | _, _, _, .cons h r, e => by
    rw [List.mapM_cons] at e
    simp only [Option.bind_eq_bind, Option.bind_eq_some_iff, Option.pure_def, Option.some.injEq] at e
    obtain ⟨x, e1, xs, e2, rfl⟩ := e
    rw [h.kK e1, Reps.kKs r e2]; rfl
theorem look_repK {κ : Type} [DecidableEq κ] : ∀ {kvs : List (κ × V)} {es : List (κ × D)} (k : κ), kvs.map (·.1) = es.map (·.1) → Reps K b F (kvs.map (·.2)) (es.map (·.2)) →
    (look es k = none ∧ valV kvs k = none) ∨ ∃ d v, look es k = some d ∧ valV kvs k = some v ∧ Rep K b F v d
  | [], [], k, _, _ => .inl ⟨rfl, rfl⟩
  | [], _ :: _, k, e, _ => by simp at e
  | _ :: _, [], k, e, _ => by simp at e
  | (k1, v1) :: kvs, (k2, d2) :: es, k, e, r => by
    simp at e
    obtain ⟨rfl, e⟩ := e
    have r : Reps K b F (v1 :: kvs.map (·.2)) (d2 :: es.map (·.2)) := r
    cases r with
    | cons h r =>
      by_cases q : k1 = k
      · subst q
        exact .inr ⟨d2, v1, by simp [look], by simp [valV], h⟩
      · rcases look_repK k e r with ⟨h1, h2⟩ | ⟨d, v, h1, h2, h3⟩
        · exact .inl ⟨by simp [look, q] at h1 ⊢; exact h1, by rw [valV_neg (p := (k1, v1)) q]; exact h2⟩
        · exact .inr ⟨d, v, by simp [look, q] at h1 ⊢; exact h1, by rw [valV_neg (p := (k1, v1)) q]; exact h2, h3⟩
theorem look_repT {κ : Type} [DecidableEq κ] : ∀ {kvs : List (κ × V)} {es : List (κ × T)} {f : List Addr} (k : κ), kvs.map (·.1) = es.map (·.1) → RepTs K b F H (kvs.map (·.2)) (es.map (·.2)) f →
    (look es k = none ∧ valV kvs k = none) ∨ ∃ t v g, look es k = some t ∧ valV kvs k = some v ∧ RepT K b F H v t g ∧ ∀ a ∈ g, a ∈ f
  | [], [], f, k, _, _ => .inl ⟨rfl, rfl⟩
  | [], _ :: _, f, k, e, _ => by simp at e
  | _ :: _, [], f, k, e, _ => by simp at e
  | (k1, v1) :: kvs, (k2, t2) :: es, f, k, e, r => by
    simp at e
    obtain ⟨rfl, e⟩ := e
    have r2 : RepTs K b F H (v1 :: kvs.map (·.2)) (t2 :: es.map (·.2)) f := r
    clear r
    cases r2 with
    | cons h r =>
      by_cases q : k1 = k
      · subst q
        exact .inr ⟨t2, v1, _, by simp [look], by simp [valV], h, fun a m => List.mem_append_left _ m⟩
      · rcases look_repT k e r with ⟨h1, h2⟩ | ⟨d, v, g, h1, h2, h3, h4⟩
        · exact .inl ⟨by simp [look, q] at h1 ⊢; exact h1, by rw [valV_neg (p := (k1, v1)) q]; exact h2⟩
        · exact .inr ⟨d, v, g, by simp [look, q] at h1 ⊢; exact h1, by rw [valV_neg (p := (k1, v1)) q]; exact h2, h3, fun a m => List.mem_append_right _ (h4 a m)⟩
theorem kM_rep {k : List Key} {y : V} (h : Rep K b F y d) (e : Same F H) (q : kM d = some k) : ∃ c, y = .ref c ∧ H c = some (.tup (k.map kV)) := by
  cases h <;> simp [kM] at q
  case tup h1 h2 => exact ⟨_, rfl, by rw [← h2.kKs q]; exact e _ _ h1⟩
theorem Got.dget {y : V} {r : Option T} (h : Got K b F H v t) (e : Same F H) (hy : Rep K b F y d) (q : t.get? d = some r) : ∃ a o, v = .ref a ∧ DGet H a y o ∧ ((r = none ∧ o = none) ∨ ∃ u w, r = some u ∧ o = some w ∧ Got K b F H w u) := by
  obtain ⟨f, rt, kb⟩ := h
  cases rt with
  | st rt =>
    cases rt <;> simp only [T.get?, reduceCtorEq, Option.map_eq_some_iff] at q
    case dk a kvs es h1 h2 h3 =>
      obtain ⟨k, k1, rfl⟩ := q
      refine ⟨a, valV kvs k, rfl, .inl ⟨kvs, k, .inl (e _ _ h1), hy.kK k1, rfl⟩, ?_⟩
      rcases look_repK k h2 h3 with ⟨z1, z2⟩ | ⟨d', v', z1, z2, z3⟩
      · exact .inl ⟨by rw [z1]; rfl, z2⟩
      · exact .inr ⟨_, _, by rw [z1]; rfl, z2, .st z3⟩
    case dt a kvs es h1 h2 h3 =>
      obtain ⟨k, k1, rfl⟩ := q
      obtain ⟨c, rfl, hc⟩ := kM_rep hy e k1
      refine ⟨a, valV kvs k, rfl, .inr ⟨kvs, k, c, .inl (e _ _ h1), rfl, hc, rfl⟩, ?_⟩
      rcases look_repK k h2 h3 with ⟨z1, z2⟩ | ⟨d', v', z1, z2, z3⟩
      · exact .inl ⟨by rw [z1]; rfl, z2⟩
      · exact .inr ⟨_, _, by rw [z1]; rfl, z2, .st z3⟩
  | vl _ _ _ => simp [T.get?] at q
  | vk h0 h1 h2 h3 =>
    simp only [T.get?, Option.map_eq_some_iff] at q
    obtain ⟨k, k1, rfl⟩ := q
    refine ⟨_, valV _ k, rfl, .inl ⟨_, k, .inl h1, hy.kK k1, rfl⟩, ?_⟩
    rcases look_repT k h2 h3 with ⟨z1, z2⟩ | ⟨t', v', g, z1, z2, z3, z4⟩
    · exact .inl ⟨z1, z2⟩
    · exact .inr ⟨_, _, z1, z2, g, z3, fun a m => kb a (.tail _ (z4 a m))⟩
  | vt h0 h1 h2 h3 =>
    simp only [T.get?, Option.map_eq_some_iff] at q
    obtain ⟨k, k1, rfl⟩ := q
    obtain ⟨c, rfl, hc⟩ := kM_rep hy e k1
    refine ⟨_, valV _ k, rfl, .inr ⟨_, k, c, .inl h1, rfl, hc, rfl⟩, ?_⟩
    rcases look_repT k h2 h3 with ⟨z1, z2⟩ | ⟨t', v', g, z1, z2, z3, z4⟩
    · exact .inl ⟨z1, z2⟩
    · exact .inr ⟨_, _, z1, z2, g, z3, fun a m => kb a (.tail _ (z4 a m))⟩
theorem Got.isD (h : Got K b F H v t) (e : Same F H) (q : t.isD = true) : ∃ a, v = .ref a ∧ IsD H a := by
  obtain ⟨f, rt, kb⟩ := h
  cases rt with
  | st rt =>
    cases rt <;> simp [T.isD] at q
    case dk h1 _ _ => exact ⟨_, rfl, .inl ⟨_, .inl (e _ _ h1)⟩⟩
    case dt h1 _ _ => exact ⟨_, rfl, .inr ⟨_, .inl (e _ _ h1)⟩⟩
  | vl _ _ _ => simp [T.isD] at q
  | vk h0 h1 h2 h3 => exact ⟨_, rfl, .inl ⟨_, .inl h1⟩⟩
  | vt h0 h1 h2 h3 => exact ⟨_, rfl, .inr ⟨_, .inl h1⟩⟩
/-- a subscript of whatever it is of -/
def fGet : T → T → (T → Prop) → Prop := fun x y Q => fIx x y Q ∨ ∃ k u, y = .st k ∧ x.get? k = some (some u) ∧ Q u
theorem sor_get : SoR K (rGetA K) fGet := fun b F H x y tx ty e gx gy Q' h Q q => by
  rcases h with h | ⟨k, u, rfl, h1, h2⟩
  · exact .inl (sor_ix b F H x y tx ty e gx gy Q' h Q q)
  · obtain ⟨a, o, rfl, g, z⟩ := gx.dget e.1 gy.inv_st h1
    rcases z with ⟨z, _⟩ | ⟨u', w, z1, rfl, z2⟩
    · cases z
    · cases z1
      exact .inr ⟨a, w, rfl, g, q _ _ F H e.refl z2 h2⟩
/-- in, not in -/
def fInA (neg : Bool) : T → T → (T → Prop) → Prop := fun x y Q => fIn neg x y Q ∨ ∃ k o, x = .st k ∧ y.get? k = some o ∧ Q (.st (.bl (if neg then !o.isSome else o.isSome)))
theorem sor_inA {neg : Bool} : SoR K (rInA K neg) (fInA neg) := fun b F H x y tx ty e gx gy Q' h Q q => by
  rcases h with h | ⟨k, r, rfl, h1, h2⟩
  · exact .inl (sor_in b F H x y tx ty e gx gy Q' h Q q)
  · obtain ⟨a, o, rfl, g, z⟩ := gy.dget e.1 gx.inv_st h1
    have es : o.isSome = r.isSome := by rcases z with ⟨rfl, rfl⟩ | ⟨u, w, rfl, rfl, _⟩ <;> rfl
    refine .inr ⟨a, o, rfl, g, ?_⟩
    rw [es]
    exact q _ _ F H e.refl (.st (.bl _)) h2
/-- d.get(k, x) -/
def wGet2 (wd wk wx : EW) : EW := fun env Q => wd env fun x => x.isD = true ∧ wk env fun y => wx env fun z => ∃ k o, y = .st k ∧ x.get? k = some o ∧ Q (o.getD z)
theorem so_dget2 (hd : SoE K td wd) (hk : SoE K ty wk) (hx : SoE K tx wx) : SoE K (tDGet2 td ty tx) (wGet2 wd wk wx) := fun b F0 H0 F H σ env O Q' h1 Q q =>
  hd _ _ _ _ _ _ _ O _ h1 _ fun x t F1 H1 S1 g1 ⟨e1, h2⟩ => by
    obtain ⟨a, rfl, i1⟩ := g1.isD S1.sub e1
    refine ⟨a, rfl, i1, hk _ _ _ _ _ _ _ (O.step S1) _ h2 _ fun y ty' F2 H2 S2 g2 h3 => hx _ _ _ _ _ _ _ ((O.step S1).step S2) _ h3 _ fun z tz F3 H3 S3 g3 ⟨k, r, ek, e3, h4⟩ => ?_⟩
    subst ek
    have S := S2.trans S3
    obtain ⟨a', o, ea, g, z⟩ := (g1.step S).dget S.sub (g2.step S3).inv_st e3
    cases ea
    refine ⟨o, g, ?_⟩
    have SS := S1.trans S
    rcases z with ⟨rfl, rfl⟩ | ⟨u, w, rfl, rfl, gw⟩
    · exact q _ _ F3 H3 SS g3 h4
    · exact q _ _ F3 H3 SS gw h4
/-! ### == of data -/
mutual
def D.py : D → PyData
  | .non => .none
  | .bl b => .bool b
  | .int i => .int i
  | .str x => .str x
  | .tup ds => .tuple (pys ds)
  | .lst ds => .list (pys ds)
  | _ => .none
def pys : List D → List PyData
  | [] => []
  | d :: ds => d.py :: pys ds
end
mutual
def D.isPy : D → Bool
  | .non => true
  | .bl _ => true
  | .int _ => true
  | .str _ => true
  | .tup ds => arePy ds
  | .lst ds => arePy ds
  | _ => false
def arePy : List D → Bool
  | [] => true
  | d :: ds => d.isPy && arePy ds
end
mutual
theorem Rep.dp (e : Same F H) : ∀ {v : V} {d : D}, Rep K b F v d → d.isPy = true → Dp K H v d.py
  | _, _, .non, _ => by unfold D.py; exact .non
  | _, _, .bl c, _ => by unfold D.py; exact .bl c
  | _, _, .int i, _ => by unfold D.py; exact .int i
  | _, _, .str x, _ => by unfold D.py; exact .str x
  | _, _, .tup h r, p => by unfold D.py; unfold D.isPy at p; exact .tup (SqT.up e h) (Reps.dp e r p)
  | _, _, .lst h r, p => by unfold D.py; unfold D.isPy at p; exact .lst (SqL.up e h) (Reps.dp e r p)
  | _, _, .dk _ _ _, p => by unfold D.isPy at p; cases p
  | _, _, .dt _ _ _, p => by unfold D.isPy at p; cases p
  | _, _, .scr _, p => by unfold D.isPy at p; cases p
  | _, _, .bx _, p => by unfold D.isPy at p; cases p
theorem Reps.dp (e : Same F H) : ∀ {vs : List V} {ds : List D}, Reps K b F vs ds → arePy ds = true → DpAll K H vs (pys ds)
  | _, _, .nil, _ => by unfold pys; exact .nil
  | _, _, .cons h r, p => by
    unfold pys
    unfold arePy at p
    rw [Bool.and_eq_true] at p
    exact .cons (Rep.dp e h p.1) (Reps.dp e r p.2)
end
def fEqD (neg : Bool) : T → T → (T → Prop) → Prop := fun x y Q => ∃ d e, x = .st d ∧ y = .st e ∧ d.isPy = true ∧ e.isPy = true ∧ SeqAt.shaped d.py = true ∧ SeqAt.shaped e.py = true ∧ Q (.st (.bl (if neg then !PyData.eqv d.py e.py else PyData.eqv d.py e.py)))
def fEqA : T → T → (T → Prop) → Prop := fun x y Q => fEq x y Q ∨ fEqD false x y Q
def fNeA : T → T → (T → Prop) → Prop := fun x y Q => fNe x y Q ∨ fEqD true x y Q
theorem sor_eqA : SoR K (rEqA K) fEqA := fun b F H x y tx ty e gx gy Q' h Q q => by
  rcases h with h | ⟨d, d', rfl, rfl, p1, p2, s1, s2, h⟩
  · exact .inl (sor_eq b F H x y tx ty e gx gy Q' h Q q)
  · exact .inr ⟨_, _, gx.inv_st.dp e.1 p1, gy.inv_st.dp e.1 p2, s1, s2, q _ _ F H e.refl (.st (.bl _)) h⟩
theorem sor_neA : SoR K (rNeA K) fNeA := fun b F H x y tx ty e gx gy Q' h Q q => by
  rcases h with h | ⟨d, d', rfl, rfl, p1, p2, s1, s2, h⟩
  · exact .inl (sor_ne b F H x y tx ty e gx gy Q' h Q q)
  · exact .inr ⟨_, _, gx.inv_st.dp e.1 p1, gy.inv_st.dp e.1 p2, s1, s2, q _ _ F H e.refl (.st (.bl _)) h⟩
/-! ### slices -/
def cutL {α : Type} (xs : List α) (lo hi : Option Int) : List α := (xs.drop (HT.sIx xs.length 0 lo)).take (HT.sIx xs.length xs.length hi - HT.sIx xs.length 0 lo)
def wNo : OW := fun _ Q => Q none
def wSo (we : EW) : OW := fun env Q => we env fun t => ∃ i, t = .st (.int i) ∧ Q (some i)
theorem so_no : SoO K tNoPart wNo := fun b F0 H0 F H σ env O Q' h Q q => q none F H (.refl O.same) h
theorem so_so (h : SoE K te we) : SoO K (tPart te) (wSo we) := fun b F0 H0 F H σ env O Q' h1 Q q =>
  h _ _ _ _ _ _ _ O _ h1 _ fun v t F1 H1 S1 g1 ⟨i, e, h2⟩ => ⟨i, by subst e; exact g1.int, q _ F1 H1 S1 h2⟩
def rSlA (K : PySem.W.Frag) : V → Option Int → Option Int → Hp → VK → Prop := fun x lo hi H Q => rSlL K x lo hi H Q ∨ rSlS x lo hi H Q ∨ L2.rSlA K x lo hi H Q
theorem sl_any {X : Cx} : SlR X (rSlA X.K) := SlR.or sl_list (SlR.or sl_str sl_tupA)
/-- a part of a list, of a text, of a tuple (not the whole) -/
def wSl (we : EW) (wl wh : OW) : EW := fun env Q => we env fun t => wl env fun lo => wh env fun hi =>
  (∃ ds, t.dl? = some ds ∧ Q (.st (.lst (cutL ds lo hi)))) ∨ (∃ z, t = .st (.str z) ∧ z.length ≤ sizeLine ∧ Q (.st (.str (cutS z lo hi)))) ∨
  (∃ ds, t = .st (.tup ds) ∧ Q (.st (.tup (cutL ds lo hi))))
theorem cutV_rep {lo hi : Option Int} (h : Reps K b F vs ds) : Reps K b F (cutV vs lo hi) (cutL ds lo hi) := by
  unfold cutV cutL
  rw [h.length]
  exact (h.drop _).take _
theorem so_sl {tl th : TO} {wl wh : OW} (h : SoE K te we) (hl : SoO K tl wl) (hh : SoO K th wh) : SoE K (tSl (rSlA K) te tl th) (wSl we wl wh) := fun b F0 H0 F H σ env O Q' h1 Q q =>
  h _ _ _ _ _ _ _ O _ h1 _ fun v t F1 H1 S1 g1 h2 => hl _ _ _ _ _ _ _ (O.step S1) _ h2 _ fun lo F2 H2 S2 h3 => hh _ _ _ _ _ _ _ ((O.step S1).step S2) _ h3 _ fun hi F3 H3 S3 h4 => by
    have O3 := ((O.step S1).step S2).step S3
    have g3 := (g1.step S2).step S3
    have SS := (S1.trans S2).trans S3
    rcases h4 with ⟨ds, e, h4⟩ | ⟨z, rfl, hz, h4⟩ | ⟨ds, rfl, h4⟩
    · obtain ⟨a, vs, rfl, z1, z2⟩ := g3.dl S3.sub e
      refine .inl ⟨a, vs, rfl, SqL.of z1, fun p hp => ?_⟩
      obtain ⟨S, g⟩ := Stp.got_new O3.fit hp (cutV_rep (lo := lo) (hi := hi) z2)
      exact q _ _ _ _ (SS.trans S) g h4
    · exact .inr (.inl ⟨z, g3.str, hz, q _ _ F3 H3 SS (.st (.str _)) h4⟩)
    · obtain ⟨a, vs, rfl, z1, z2⟩ := g3.inv_st.inv_tup
      refine .inr (.inr ⟨a, vs, rfl, SqT.up S3.sub z1, fun hw => ?_, fun _ p hp => ?_⟩)
      · rw [z2.length] at hw
        have e : cutL ds lo hi = ds := by
          unfold cutL
          rw [hw.1, hw.2]
          simp
        rw [e] at h4
        exact q _ _ F3 H3 SS g3 h4
      · obtain ⟨S, g⟩ := Stp.got_newT O3.fit hp (cutV_rep (lo := lo) (hi := hi) z2)
        exact q _ _ _ _ (SS.trans S) g h4
/-- xs[::-1] -/
def wRev (we : EW) : EW := fun env Q => we env fun t => ∃ ds, t.dl? = some ds ∧ Q (.st (.lst ds.reverse))
theorem so_rev (h : SoE K te we) : SoE K (tRevL K te) (wRev we) := fun b F0 H0 F H σ env O Q' h1 Q q =>
  h _ _ _ _ _ _ _ O _ h1 _ fun v t F1 H1 S1 g1 ⟨ds, e, h2⟩ => by
    obtain ⟨a, vs, rfl, z1, z2⟩ := g1.dl S1.sub e
    refine ⟨a, vs, rfl, SqL.of z1, fun p hp => ?_⟩
    obtain ⟨S, g⟩ := Stp.got_new (O.step S1).fit hp z2.reverse
    exact q _ _ _ _ (S1.trans S) g h2
/-! ### calls of built-ins -/
def wCB (f : List T → (T → Prop) → Prop) (wr : AW) : EW := fun env Q => wr env fun ts => f ts Q
theorem so_cb {r : List V → Hp → VK → Prop} {f : List T → (T → Prop) → Prop} (h : SoA K tr wr) (hr : SoC K r f) : SoE K (tCB r tr) (wCB f wr) := fun b F0 H0 F H σ env O Q' h1 Q q =>
  h _ _ _ _ _ _ _ O _ h1 _ fun vs ts F1 H1 S1 g1 h2 => hr b F1 H1 vs ts (O.step S1).fit g1 Q' h2 Q fun v t F2 H2 S2 g2 h3 => q v t F2 H2 (S1.trans S2) g2 h3
theorem Gots.one (h : Gots K b F H vs [t]) : ∃ v, vs = [v] ∧ Got K b F H v t := by
  obtain ⟨v, vs', rfl, h1, h2⟩ := h.inv_cons
  exact ⟨v, by rw [h2.inv_nil], h1⟩
def fLen : List T → (T → Prop) → Prop := fun ts Q => ∃ t, ts = [t] ∧ ((∃ ms, t.seq? = some ms ∧ Q (.st (.int ms.length))) ∨ ∃ x, t = .st (.str x) ∧ x.length ≤ sizeLine ∧ Q (.st (.int x.length)))
theorem soc_len : SoC K (fun xs H Q => ∃ x n, xs = [x] ∧ LenV K x H n ∧ Q (.int n) H) fLen := fun b F H vs ts e gs Q' h Q q => by
  obtain ⟨t, rfl, h⟩ := h
  obtain ⟨v, rfl, g⟩ := gs.one
  rcases h with ⟨ms, h1, h2⟩ | ⟨x, rfl, h1, h2⟩
  · obtain ⟨a, ws, rfl, h3, h4⟩ := g.seq e.1 h1
    refine ⟨_, ms.length, rfl, ?_, q _ _ F H e.refl (.st (.int _)) h2⟩
    rcases h3 with h3 | h3
    · exact .inl ⟨ws, h3, h4.length.symm⟩
    · exact .inr ⟨ws, h3, h4.length.symm⟩
  · exact ⟨v, x.length, rfl, by rw [g.str]; exact ⟨h1, rfl⟩, q _ _ F H e.refl (.st (.int _)) h2⟩
def fInt : List T → (T → Prop) → Prop := fun ts Q => (∃ i, ts = [.st (.int i)] ∧ Q (.st (.int i))) ∨ ∃ k, ts = [.st (.bl k)] ∧ Q (.st (.int (if k then 1 else 0)))
theorem soc_int : SoC K (fun xs H Q => (∃ i, xs = [.int i] ∧ Q (.int i) H) ∨ ∃ k, xs = [.bl k] ∧ Q (.int (if k then 1 else 0)) H) fInt := fun b F H vs ts e gs Q' h Q q => by
  rcases h with ⟨i, rfl, h⟩ | ⟨k, rfl, h⟩
  · obtain ⟨v, rfl, g⟩ := gs.one
    exact .inl ⟨i, by rw [g.int], q _ _ F H e.refl (.st (.int _)) h⟩
  · obtain ⟨v, rfl, g⟩ := gs.one
    exact .inr ⟨k, by rw [g.bl], q _ _ F H e.refl (.st (.int _)) h⟩
/-- max, min: of two ints, of three, of a list -/
def rMaxA (K : PySem.W.Frag) : List V → Hp → VK → Prop := fun xs H Q => (∃ i j, xs = [.int i, .int j] ∧ Q (.int (if j > i then j else i)) H) ∨ rMax K xs H Q ∨ rNuC3 nuMax3 xs H Q
def rMinA (K : PySem.W.Frag) : List V → Hp → VK → Prop := fun xs H Q => (∃ i j, xs = [.int i, .int j] ∧ Q (.int (if j < i then j else i)) H) ∨ rMin K xs H Q
theorem call_maxA {X : Cx} (hc : X.calm = true) : CallR X (.builtin "max") (rMaxA X.K) := CallR.or (call_max2 hc) (CallR.or (cr_max hc) (call_max3Nu hc))
theorem call_minA {X : Cx} (hc : X.calm = true) : CallR X (.builtin "min") (rMinA X.K) := CallR.or (call_min2 hc) (cr_min hc)
def fMax : List T → (T → Prop) → Prop := fun ts Q => (∃ i j, ts = [.st (.int i), .st (.int j)] ∧ Q (.st (.int (max i j)))) ∨ (∃ i j k, ts = [.st (.int i), .st (.int j), .st (.int k)] ∧ Q (.st (.int (max (max i j) k)))) ∨
  ∃ (t : T) (ns : List Int), ts = [t] ∧ t.dl? = some (ns.map D.int) ∧ 0 < ns.length ∧ ∀ m, m ∈ ns → (∀ y, y ∈ ns → y ≤ m) → Q (.st (.int m))
def fMin : List T → (T → Prop) → Prop := fun ts Q => (∃ i j, ts = [.st (.int i), .st (.int j)] ∧ Q (.st (.int (min i j)))) ∨
  ∃ (t : T) (ns : List Int), ts = [t] ∧ t.dl? = some (ns.map D.int) ∧ 0 < ns.length ∧ ∀ m, m ∈ ns → (∀ y, y ∈ ns → m ≤ y) → Q (.st (.int m))
theorem max_ite (i j : Int) : (if j > i then j else i) = max i j := by
  by_cases h : j > i
  · rw [if_pos h]; omega
  · rw [if_neg h]; omega
theorem min_ite (i j : Int) : (if j < i then j else i) = min i j := by
  by_cases h : j < i
  · rw [if_pos h]; omega
  · rw [if_neg h]; omega
theorem soc_max : SoC K (rMaxA K) fMax := fun b F H vs ts e gs Q' h Q q => by
  rcases h with ⟨i, j, rfl, h⟩ | ⟨i, j, k, rfl, h⟩ | ⟨t, ns, rfl, h1, h2, h3⟩
  · obtain ⟨v, vs', rfl, g1, g2⟩ := gs.inv_cons
    obtain ⟨w, rfl, g3⟩ := g2.one
    exact .inl ⟨i, j, by rw [g1.int, g3.int], by rw [max_ite]; exact q _ _ F H e.refl (.st (.int _)) h⟩
  · obtain ⟨v, vs', rfl, g1, g2⟩ := gs.inv_cons
    obtain ⟨v2, vs'', rfl, g3, g4⟩ := g2.inv_cons
    obtain ⟨w, rfl, g5⟩ := g4.one
    rw [g1.int, g3.int, g5.int]
    refine .inr (.inr ⟨_, _, _, .int (max (max i j) k), rfl, ?_, q _ _ F H e.refl (.st (.int _)) h⟩)
    have e2 : ∀ i j : Int, nuMax2 (.int i) (.int j) = some (.int (max i j)) := fun i j => by
      show some (if decide (i < j) = true then V.int j else V.int i) = _
      by_cases z : i < j
      · rw [decide_eq_true z, if_pos rfl, show max i j = j by omega]
      · rw [decide_eq_false z, if_neg Bool.false_ne_true, show max i j = i by omega]
    unfold nuMax3
    rw [e2]
    exact e2 _ _
  · obtain ⟨v, rfl, g⟩ := gs.one
    obtain ⟨a, ws, rfl, z1, z2⟩ := g.dl e.1 h1
    exact .inr (.inl ⟨a, ns, rfl, by rw [← z2.ints]; exact SqL.of z1, h2, fun m m1 m2 => q _ _ F H e.refl (.st (.int _)) (h3 m m1 m2)⟩)
theorem soc_min : SoC K (rMinA K) fMin := fun b F H vs ts e gs Q' h Q q => by
  rcases h with ⟨i, j, rfl, h⟩ | ⟨t, ns, rfl, h1, h2, h3⟩
  · obtain ⟨v, vs', rfl, g1, g2⟩ := gs.inv_cons
    obtain ⟨w, rfl, g3⟩ := g2.one
    exact .inl ⟨i, j, by rw [g1.int, g3.int], by rw [min_ite]; exact q _ _ F H e.refl (.st (.int _)) h⟩
  · obtain ⟨v, rfl, g⟩ := gs.one
    obtain ⟨a, ws, rfl, z1, z2⟩ := g.dl e.1 h1
    exact .inr ⟨a, ns, rfl, by rw [← z2.ints]; exact SqL.of z1, h2, fun m m1 m2 => q _ _ F H e.refl (.st (.int _)) (h3 m m1 m2)⟩
def fTuple : List T → (T → Prop) → Prop := fun ts Q => ∃ t, ts = [t] ∧ ((∃ ds, t.dl? = some ds ∧ Q (.st (.tup ds))) ∨ ∃ ds, t = .st (.tup ds) ∧ Q t)
theorem soc_tuple : SoC K (fun xs H Q => ∃ p ys, xs = [.ref p] ∧ ((SqL K H p ys ∧ ∀ l, H l = none → Q (.ref l) (upd H l (.tup ys))) ∨ (SqT K H p ys ∧ Q (.ref p) H))) fTuple := fun b F H vs ts e gs Q' h Q q => by
  obtain ⟨t, rfl, h⟩ := h
  obtain ⟨v, rfl, g⟩ := gs.one
  rcases h with ⟨ds, h1, h2⟩ | ⟨ds, rfl, h2⟩
  · obtain ⟨a, ws, rfl, z1, z2⟩ := g.dl e.1 h1
    refine ⟨a, ws, rfl, .inl ⟨SqL.of z1, fun l hl => ?_⟩⟩
    obtain ⟨S, g⟩ := Stp.got_newT e hl z2
    exact q _ _ _ _ S g h2
  · obtain ⟨a, ws, rfl, z1, z2⟩ := g.inv_st.inv_tup
    exact ⟨a, ws, rfl, .inr ⟨SqT.up e.1 z1, q _ _ F H e.refl g h2⟩⟩
def fList : List T → (T → Prop) → Prop := fun ts Q => ∃ t ds, ts = [t] ∧ t.dq? = some ds ∧ Q (.st (.lst ds))
theorem soc_list : SoC K (fun xs H Q => ∃ p ys, xs = [.ref p] ∧ (SqL K H p ys ∨ SqT K H p ys) ∧ ∀ l, H l = none → Q (.ref l) (upd H l (.lst ys))) fList := fun b F H vs ts e gs Q' h Q q => by
  obtain ⟨t, ds, rfl, h1, h2⟩ := h
  obtain ⟨v, rfl, g⟩ := gs.one
  obtain ⟨a, ws, rfl, z1, z2⟩ := g.dq e.1 h1
  refine ⟨a, ws, rfl, z1, fun l hl => ?_⟩
  obtain ⟨S, g⟩ := Stp.got_new e hl z2
  exact q _ _ _ _ S g h2
def fAny : List T → (T → Prop) → Prop := fun ts Q => ∃ (t : T) (bs : List Bool), ts = [t] ∧ t.dl? = some (bs.map D.bl) ∧ Q (.st (.bl (bs.any id)))
def fAll : List T → (T → Prop) → Prop := fun ts Q => ∃ (t : T) (bs : List Bool), ts = [t] ∧ t.dl? = some (bs.map D.bl) ∧ Q (.st (.bl (bs.all id)))
def fSum : List T → (T → Prop) → Prop := fun ts Q => ∃ (t : T) (ns : List Int), ts = [t] ∧ t.dl? = some (ns.map D.int) ∧ Q (.st (.int ns.sum))
theorem soc_any : SoC K (rAny K) fAny := fun b F H vs ts e gs Q' h Q q => by
  obtain ⟨t, bs, rfl, h1, h2⟩ := h
  obtain ⟨v, rfl, g⟩ := gs.one
  obtain ⟨a, ws, rfl, z1, z2⟩ := g.dl e.1 h1
  exact ⟨a, bs, rfl, by rw [← z2.bls]; exact SqL.of z1, q _ _ F H e.refl (.st (.bl _)) h2⟩
theorem soc_all : SoC K (rAll K) fAll := fun b F H vs ts e gs Q' h Q q => by
  obtain ⟨t, bs, rfl, h1, h2⟩ := h
  obtain ⟨v, rfl, g⟩ := gs.one
  obtain ⟨a, ws, rfl, z1, z2⟩ := g.dl e.1 h1
  exact ⟨a, bs, rfl, by rw [← z2.bls]; exact SqL.of z1, q _ _ F H e.refl (.st (.bl _)) h2⟩
theorem soc_sum : SoC K (rSum K) fSum := fun b F H vs ts e gs Q' h Q q => by
  obtain ⟨t, bs, rfl, h1, h2⟩ := h
  obtain ⟨v, rfl, g⟩ := gs.one
  obtain ⟨a, ws, rfl, z1, z2⟩ := g.dl e.1 h1
  exact ⟨a, bs, rfl, by rw [← z2.ints]; exact SqL.of z1, q _ _ F H e.refl (.st (.int _)) h2⟩
def fSortS : List T → (T → Prop) → Prop := fun ts Q => ∃ (t : T) (xs : List Str), ts = [t] ∧ t.dl? = some (xs.map D.str) ∧ xs.length < 64 ∧ ∀ ys : List Str, ys.Perm xs → sortedS ys = true → Q (.st (.lst (ys.map D.str)))
theorem soc_sortS : SoC K (rSortedS K) fSortS := fun b F H vs ts e gs Q' h Q q => by
  obtain ⟨t, xs, rfl, h1, h2, h3⟩ := h
  obtain ⟨v, rfl, g⟩ := gs.one
  obtain ⟨a, ws, rfl, z1, z2⟩ := g.dl e.1 h1
  refine ⟨a, xs, rfl, by rw [← z2.strs]; exact SqL.of z1, h2, fun ys p hp hs hn => ?_⟩
  obtain ⟨S, g⟩ := Stp.got_new e hn (Reps.of_strs (K := K) (b := b) (F := F) (ns := ys))
  exact q _ _ _ _ S g (h3 ys hp hs)
/-! ### methods with a value -/
/-- xs.index(y) -/
def wM (f : T → List T → (T → Prop) → Prop) (wo : EW) (wr : AW) : EW := fun env Q => wo env fun x => (∃ ms, x.lst? = some ms) ∧ wr env fun ts => f x ts Q
theorem so_bm {to : TE} {wo : EW} {r : V → List V → Hp → VK → Prop} {f : T → List T → (T → Prop) → Prop} (ho : SoE K to wo) (h : SoA K tr wr) (hr : SoM K r f) : SoE K (tBM K "list" r to tr) (wM f wo wr) := fun b F0 H0 F H σ env O Q' h1 Q q =>
  ho _ _ _ _ _ _ _ O _ h1 _ fun v t F1 H1 S1 g1 ⟨⟨ms, em⟩, h2⟩ => by
    obtain ⟨a, ws, rfl, z1, z2⟩ := g1.lst S1.sub em
    refine ⟨.inl ⟨rfl, ws, SqL.of z1⟩, h _ _ _ _ _ _ _ (O.step S1) _ h2 _ fun vs ts F2 H2 S2 g2 h3 => ?_⟩
    exact hr b F2 H2 _ _ _ _ ((O.step S1).step S2).fit (g1.step S2) g2 Q' h3 Q fun v t F3 H3 S3 g3 h4 => q v t F3 H3 ((S1.trans S2).trans S3) g3 h4
def fIndex : T → List T → (T → Prop) → Prop := fun x ts Q => ∃ y u ds vs j z, ts = [y] ∧ y.fl? = some u ∧ x.dl? = some ds ∧ ds.mapM D.fl? = some vs ∧ vs[j]? = some z ∧ eqV z u = true ∧ (∀ (m : Nat) z', m < j → vs[m]? = some z' → eqV z' u = false) ∧ Q (.st (.int (j : Nat)))
theorem som_index : SoM K (rIndex K) fIndex := fun b F H x tx vs ts e gx gs Q' h Q q => by
  obtain ⟨y, u, ds, ws, j, z, rfl, h1, h2, h3, h4, h5, h6, h7⟩ := h
  obtain ⟨v, rfl, g⟩ := gs.one
  obtain ⟨rfl, fx⟩ := g.fl h1
  obtain ⟨a, vs, rfl, z1, z2⟩ := gx.dl e.1 h2
  obtain ⟨rfl, fs⟩ := z2.fl h3
  exact ⟨a, vs, v, j, z, rfl, rfl, SqL.of z1, fx, fs, h4, h5, h6, q _ _ F H e.refl (.st (.int _)) h7⟩
/-- s.join(xs), s.split(t) -/
def wM1 (f : T → List T → (T → Prop) → Prop) (wo we : EW) : EW := fun env Q => wo env fun x => (∃ s, x = .st (.str s)) ∧ we env fun t => f x [t] Q
theorem so_m1 {to : TE} {wo : EW} {r : V → List V → Hp → VK → Prop} {f : T → List T → (T → Prop) → Prop} (ho : SoE K to wo) (h : SoE K te we) (hr : SoM K r f) : SoE K (tM1 r to te) (wM1 f wo we) := fun b F0 H0 F H σ env O Q' h1 Q q =>
  ho _ _ _ _ _ _ _ O _ h1 _ fun v t F1 H1 S1 g1 ⟨⟨s, es⟩, h2⟩ => by
    subst es
    refine ⟨⟨s, g1.str⟩, h _ _ _ _ _ _ _ (O.step S1) _ h2 _ fun y t F2 H2 S2 g2 h3 => ?_⟩
    exact hr b F2 H2 _ _ _ _ ((O.step S1).step S2).fit (g1.step S2) (.cons g2 .nil) Q' h3 Q fun v t F3 H3 S3 g3 h4 => q v t F3 H3 ((S1.trans S2).trans S3) g3 h4
def fJoin : T → List T → (T → Prop) → Prop := fun x ts Q => ∃ a y ys, x = .st (.str a) ∧ ts = [y] ∧ y.dl? = some (ys.map D.str) ∧ (ys.map (·.length)).sum + ys.length * a.length ≤ 16777216 ∧ Q (.st (.str (Txt.join a ys)))
theorem som_join : SoM K (fun x xs H Q => ∃ a p, ∃ ys : List Str, x = .str a ∧ xs = [.ref p] ∧ (SqL K H p (ys.map V.str) ∨ SqT K H p (ys.map V.str)) ∧ (ys.map (·.length)).sum + ys.length * a.length ≤ 16777216 ∧ Q (.str (Txt.join a ys)) H) fJoin := fun b F H x tx vs ts e gx gs Q' h Q q => by
  obtain ⟨a, y, ys, rfl, rfl, h1, h2, h3⟩ := h
  obtain ⟨v, rfl, g⟩ := gs.one
  obtain ⟨p, ws, rfl, z1, z2⟩ := g.dl e.1 h1
  exact ⟨a, p, ys, gx.str, rfl, .inl (by rw [← z2.strs]; exact SqL.of z1), h2, q _ _ F H e.refl (.st (.str _)) h3⟩
def fSplit : T → List T → (T → Prop) → Prop := fun x ts Q => ∃ a c, x = .st (.str a) ∧ ts = [.st (.str c)] ∧ (c.length == 0) = false ∧ a.length + 2 ≤ sizeLine ∧ Q (.st (.lst ((Txt.split a c).map D.str)))
theorem som_split : SoM K (fun x xs H Q => ∃ a b, x = .str a ∧ xs = [.str b] ∧ (b.length == 0) = false ∧ a.length + 2 ≤ sizeLine ∧ rNewStrs (Txt.split a b) H Q) fSplit := fun b F H x tx vs ts e gx gs Q' h Q q => by
  obtain ⟨a, c, rfl, rfl, h1, h2, h3⟩ := h
  obtain ⟨v, rfl, g⟩ := gs.one
  refine ⟨a, c, gx.str, by rw [g.str], h1, h2, fun p hp => ?_⟩
  obtain ⟨S, g⟩ := Stp.got_new e hp (Reps.of_strs (K := K) (b := b) (F := F) (ns := Txt.split a c))
  exact q _ _ _ _ S g h3
/-! ### calls of defs -/
abbrev PSp := List D → (D → Prop) → Prop
def spOf (K : PySem.W.Frag) (sp : PSp) : Sp := fun vs H Q _ => ∃ (b : Option Addr) (F : Hp) (ds : List D) (R : D → Prop), Fit K b F H ∧ Reps K b F vs ds ∧ sp ds R ∧ ∀ v d F' H', Stp K b F H F' H' → Rep K b F' v d → R d → Q v H'
def wCall (sp : PSp) (wr : AW) : EW := fun env Q => wr env fun ts => ∃ ds, plainL ts = some ds ∧ sp ds fun d => Q (.st d)
theorem so_call {sp : PSp} {E : XK} (h : SoA K tr wr) : SoE K (tCall (spOf K sp) [] E tr) (wCall sp wr) := fun b F0 H0 F H σ env O Q' h1 Q q =>
  h _ _ _ _ _ _ _ O _ h1 _ fun vs ts F1 H1 S1 g1 ⟨ds, e, h2⟩ => by
    rw [plainL_eq e] at g1
    show spOf K sp (vs ++ []) H1 Q E
    rw [List.append_nil]
    exact ⟨b, F1, ds, _, (O.step S1).fit, g1.reps, h2, fun v d F2 H2 S2 r2 h3 => q v (.st d) F2 H2 (S1.trans S2) (.st r2) h3⟩
end
end Pw
namespace Pw
open PySem PySem.Spec PyProof.Rows L2

/-! ### targets -/
inductive Tgt where
  | nm (i : Nat)
  | tp (ts : List Tgt)
mutual
def setT : Tgt → D → Env → Option Env
  | .nm i, d, env => some (env.set i (some (.st d)))
  | .tp ts, .tup ds, env => setTs ts ds env
  | .tp _, _, _ => none
def setTs : List Tgt → List D → Env → Option Env
  | [], [], env => some env
  | t :: ts, d :: ds, env => (setT t d env).bind fun e => setTs ts ds e
  | _, _, _ => none
end
mutual
def Tgt.slots : Tgt → List Nat
  | .nm i => [i]
  | .tp ts => slotsL ts
def slotsL : List Tgt → List Nat
  | [] => []
  | t :: ts => t.slots ++ slotsL ts
end
theorem wipe_get (σ : L2.St) (j : Nat) : ∀ vs : List Nat, (L2.wipe σ vs)[j]? = if j ∈ vs then (σ[j]?).map (fun _ => none) else σ[j]?
  | [] => by simp [L2.wipe]
  | v :: vs => by
    show ((L2.wipe σ vs).set v none)[j]? = _
    rw [List.getElem?_set, L2.wipe_length, wipe_get σ j vs]
    by_cases e : v = j
    · subst e
      by_cases h : v < σ.length
      · simp [h]
      · simp [h]
    · by_cases m : j ∈ vs
      · simp [e, m]
      · simp [e, m, Ne.symm e]
theorem wipe_set {σ : L2.St} {i : Nat} {x : Option V} {vs : List Nat} (m : i ∈ vs) : L2.wipe (σ.set i x) vs = L2.wipe σ vs := by
  apply List.ext_getElem?
  intro j
  rw [wipe_get, wipe_get, List.getElem?_set]
  by_cases e : i = j
  · subst e
    by_cases h : i < σ.length
    · simp [m, h]
    · simp [m, h]
  · simp [e]
theorem wipe_wipe (σ : L2.St) (vs : List Nat) : L2.wipe (L2.wipe σ vs) vs = L2.wipe σ vs := by
  apply List.ext_getElem?
  intro j
  rw [wipe_get, wipe_get]
  by_cases m : j ∈ vs
  · simp only [m, if_true, Option.map_map]
    rfl
  · simp [m]

section
variable {K : PySem.W.Frag} {b : Option Addr} {F H F' H' F'' H'' F0 H0 : Hp} {v : V} {vs : List V} {d : D} {ds : List D} {t : T} {ts : List T} {f g fp : List Addr} {σ : L2.St} {env : Env} {a p : Addr} {o : HO}
variable {ta tb te tc td ty tx : TE} {wa wb we wc wd wk wx : EW} {tt tu : TT} {wt wu : TW} {r : R2} {fr : T → T → (T → Prop) → Prop} {tr : TA} {wr : AW} {wi : TI} {wI : IW}
def SoG (K : PySem.W.Frag) (g : TG) (tg : Tgt) : Prop := ∀ (b : Option Addr) (F0 H0 F H : Hp) (σ : L2.St) (env : Env) (x : V) (d : D) (env' : Env), Ok K b F0 H0 F H σ env → Rep K b F x d → setT tg d env = some env' → ∀ Qd : L2.St → Hp → Prop,
  (∀ σ', Ok K b F0 H0 F H σ' env' → (∀ ws, (∀ i ∈ tg.slots, i ∈ ws) → L2.wipe σ' ws = L2.wipe σ ws) → Qd σ' H) → g x σ H Qd
def SoGs (K : PySem.W.Frag) (g : TGs) (tg : List Tgt) : Prop := ∀ (b : Option Addr) (F0 H0 F H : Hp) (σ : L2.St) (env : Env) (xs : List V) (ds : List D) (env' : Env), Ok K b F0 H0 F H σ env → Reps K b F xs ds → setTs tg ds env = some env' → ∀ Qd : L2.St → Hp → Prop,
  (∀ σ', Ok K b F0 H0 F H σ' env' → (∀ ws, (∀ i ∈ slotsL tg, i ∈ ws) → L2.wipe σ' ws = L2.wipe σ ws) → Qd σ' H) → g xs σ H Qd
theorem so_gn {i : Nat} : SoG K (gName i) (.nm i) := fun b F0 H0 F H σ env x d env' O h e Qd q => by
  unfold setT at e
  cases e
  exact q _ (O.setD i h) fun ws m => wipe_set (m i (by unfold Tgt.slots; exact .head _))
theorem so_gnil : SoGs K gNil [] := fun b F0 H0 F H σ env xs ds env' O h e Qd q => by
  cases h with
  | nil => unfold setTs at e; cases e; exact ⟨rfl, q _ O fun _ _ => rfl⟩
  | cons _ _ => unfold setTs at e; cases e
theorem so_gcons {g : TG} {gs : TGs} {tg : Tgt} {tgs : List Tgt} (h1 : SoG K g tg) (h2 : SoGs K gs tgs) : SoGs K (gCons g gs) (tg :: tgs) := fun b F0 H0 F H σ env xs ds env' O h e Qd q => by
  cases h with
  | nil => unfold setTs at e; cases e
  | @cons x xs' d ds' r rs =>
    unfold setTs at e
    rw [Option.bind_eq_some_iff] at e
    obtain ⟨env1, e1, e2⟩ := e
    refine ⟨_, _, rfl, h1 _ _ _ _ _ _ _ _ _ _ O r e1 _ fun σ1 O1 w1 => h2 _ _ _ _ _ _ _ _ _ _ O1 rs e2 _ fun σ2 O2 w2 => q σ2 O2 fun ws m => ?_⟩
    rw [w2 ws fun i mi => m i (by unfold slotsL; exact List.mem_append_right _ mi), w1 ws fun i mi => m i (by unfold slotsL; exact List.mem_append_left _ mi)]
theorem setTs_len : ∀ {ts : List Tgt} {ds : List D} {env env' : Env}, setTs ts ds env = some env' → ds.length = ts.length
  | [], [], _, _, _ => rfl
  | [], _ :: _, _, _, e => by unfold setTs at e; cases e
  | _ :: _, [], _, _, e => by unfold setTs at e; cases e
  | t :: ts, d :: ds, env, env', e => by
    unfold setTs at e
    rw [Option.bind_eq_some_iff] at e
    obtain ⟨env1, e1, e2⟩ := e
    simp [setTs_len e2]
theorem so_gtup {gs : TGs} {tgs : List Tgt} {n : Nat} (h : SoGs K gs tgs) (hn : tgs.length = n := by rfl) : SoG K (gTup K n gs) (.tp tgs) := fun b F0 H0 F H σ env x d env' O r e Qd q => by
  cases d <;> first | (unfold setT at e; cases e; done) | skip
  case tup ds =>
    unfold setT at e
    obtain ⟨a, xs, rfl, h1, h2⟩ := r.inv_tup
    refine ⟨a, xs, rfl, SqT.up O.same h1, by rw [h2.length, setTs_len e, hn], h _ _ _ _ _ _ _ _ _ _ O h2 e _ fun σ' O' w => q σ' O' fun ws m => w ws fun i mi => m i (by unfold Tgt.slots; exact mi)⟩
/-! ### what is walked -/
def Yld (K : PySem.W.Frag) (b : Option Addr) (J : It) (F : Hp) (ds : List D) : Prop :=
  (∀ (i : Nat) (d : D), ds[i]? = some d → ∀ F' H', Same F F' → Fit K b F' H' → J.go i H' ∧ ∀ x H'', J.yld i H' x H'' → ∃ F'', Stp K b F' H' F'' H'' ∧ Rep K b F'' x d) ∧
  ∀ F' H', Same F F' → Fit K b F' H' → J.stop ds.length H'
def SoI (K : PySem.W.Frag) (wi : TI) (w : IW) : Prop := ∀ (b : Option Addr) (F0 H0 F H : Hp) (σ : L2.St) (env : Env), Ok K b F0 H0 F H σ env → ∀ Q' : List D → Prop, w env Q' → ∀ R : It → Hp → Prop,
  (∀ J ds F' H', Stp K b F H F' H' → Yld K b J F' ds → Q' ds → R J H') → wi σ H R
def T.it? : T → Option (List D)
  | .st (.lst ds) => some ds
  | .st (.tup ds) => some ds
  | .st (.scr ns) => some (ns.map D.int)
  | _ => none
def wItS (we : EW) : IW := fun env Q => we env fun t => ∃ ds, t.it? = some ds ∧ Q ds
theorem yld_list {xs : List V} (hs : ∀ F' H', Same F F' → Same F' H' → SqL K H' a xs) (r : Reps K b F xs ds) : Yld K b (Itl K a) F ds := by
  refine ⟨fun i d e F' H' s f => ?_, fun F' H' s f => ⟨xs, hs _ _ s f.1, by rw [r.length]; exact Nat.le_refl _⟩⟩
  obtain ⟨v, h1, h2⟩ := r.get e
  refine ⟨⟨xs, v, hs _ _ s f.1, h1⟩, fun x H'' ⟨e1, e2⟩ => ⟨F', ?_, ?_⟩⟩
  · subst e1; exact f.refl
  · have e3 := e2 xs (hs _ _ s f.1)
    rw [h1] at e3; cases e3
    exact h2.mono s
theorem yld_tup {xs : List V} (hs : ∀ F' H', Same F F' → Same F' H' → SqT K H' a xs) (r : Reps K b F xs ds) : Yld K b (Itt K a) F ds := by
  refine ⟨fun i d e F' H' s f => ?_, fun F' H' s f => ⟨xs, hs _ _ s f.1, by rw [r.length]; exact Nat.le_refl _⟩⟩
  obtain ⟨v, h1, h2⟩ := r.get e
  refine ⟨⟨xs, v, hs _ _ s f.1, h1⟩, fun x H'' ⟨e1, e2⟩ => ⟨F', ?_, ?_⟩⟩
  · subst e1; exact f.refl
  · have e3 := e2 xs (hs _ _ s f.1)
    rw [h1] at e3; cases e3
    exact h2.mono s
theorem so_its (h : SoE K te we) : SoI K (iSeq K te) (wItS we) := fun b F0 H0 F H σ env O Q' h1 R q =>
  h _ _ _ _ _ _ _ O _ h1 _ fun v t F1 H1 S1 g1 ⟨ds, e, h2⟩ => by
    obtain ⟨f, rt, kb⟩ := g1
    cases rt with
    | st rt =>
      cases rt <;> simp only [T.it?, reduceCtorEq, Option.some.injEq] at e
      case tup z1 z2 _ =>
        subst e
        exact ⟨_, rfl, .inr ⟨⟨_, SqT.up S1.sub z1⟩, q _ _ F1 H1 S1 (yld_tup (fun F' H' s s' => SqT.up s' (s _ _ z1)) z2) h2⟩⟩
      case lst z1 z2 _ =>
        subst e
        exact ⟨_, rfl, .inl ⟨⟨_, SqL.up S1.sub z1⟩, q _ _ F1 H1 S1 (yld_list (fun F' H' s s' => SqL.up s' (s _ _ z1)) z2) h2⟩⟩
      case scr z1 _ =>
        subst e
        exact ⟨_, rfl, .inl ⟨⟨_, S1.sub.seq z1⟩, q _ _ F1 H1 S1 (yld_list (fun F' H' s s' => s'.seq (s.seq z1)) Reps.of_ints) h2⟩⟩
    | _ => simp [T.it?] at e
def rngD (lo : Int) (n : Nat) : List D := (List.range n).map fun i : Nat => D.int (lo + i)
theorem rngD_len (lo : Int) (n : Nat) : (rngD lo n).length = n := by simp [rngD]
theorem yld_rng {lo : Int} {n : Nat} : Yld K b (Itr lo n) F (rngD lo n) := by
  refine ⟨fun i d e F' H' s f => ?_, fun F' H' s f => by rw [rngD_len]; exact Nat.le_refl _⟩
  have hi : i < n := by
    have := (List.getElem?_eq_some_iff.mp e).1
    rwa [rngD_len] at this
  refine ⟨hi, fun x H'' ⟨e1, e2⟩ => ⟨F', ?_, ?_⟩⟩
  · subst e1; exact f.refl
  · subst e2
    simp [rngD, hi] at e
    subst e
    exact .int _
def wRg1 (wr : AW) : IW := fun env Q => wr env fun ts => ∃ j : Int, ts = [.st (.int j)] ∧ -(2 ^ 62) ≤ j ∧ j < 2 ^ 62 ∧ Q (rngD 0 j.toNat)
theorem so_rg1 (h : SoA K tr wr) : SoI K (iRng1 tr) (wRg1 wr) := fun b F0 H0 F H σ env O Q' h1 R q =>
  h _ _ _ _ _ _ _ O _ h1 _ fun vs ts F1 H1 S1 g1 ⟨j, e, e1, e2, h2⟩ => by
    subst e
    obtain ⟨v, rfl, g⟩ := g1.one
    exact ⟨j, by rw [g.int], e1, e2, q _ _ F1 H1 S1 yld_rng h2⟩
def wRg2 (wr : AW) : IW := fun env Q => wr env fun ts => ∃ i j : Int, ts = [.st (.int i), .st (.int j)] ∧ (-(2 ^ 62) ≤ i ∧ i < 2 ^ 62 ∧ -(2 ^ 62) ≤ j ∧ j < 2 ^ 62) ∧ Q (rngD i (j - i).toNat)
theorem so_rg2 (h : SoA K tr wr) : SoI K (iRng2 tr) (wRg2 wr) := fun b F0 H0 F H σ env O Q' h1 R q =>
  h _ _ _ _ _ _ _ O _ h1 _ fun vs ts F1 H1 S1 g1 ⟨i, j, e, e1, h2⟩ => by
    subst e
    obtain ⟨v, vs', rfl, g, g'⟩ := g1.inv_cons
    obtain ⟨w, rfl, g''⟩ := g'.one
    exact ⟨i, j, by rw [g.int, g''.int], e1, q _ _ F1 H1 S1 yld_rng h2⟩
/-- range(i, j, -1) -/
def dwnD (i : Int) (n : Nat) : List D := (List.range n).map fun k : Nat => D.int (i - k)
def wRg3 (wr : AW) : IW := fun env Q => wr env fun ts => ∃ i j : Int, ts = [.st (.int i), .st (.int j), .st (.int (-1))] ∧ (-(2 ^ 62) ≤ i ∧ i < 2 ^ 62 ∧ -(2 ^ 62) ≤ j ∧ j < 2 ^ 62) ∧ Q (dwnD i (i - j).toNat)
theorem so_rg3 (h : SoA K tr wr) : SoI K (iRng3 tr) (wRg3 wr) := fun b F0 H0 F H σ env O Q' h1 R q =>
  h _ _ _ _ _ _ _ O _ h1 _ fun vs ts F1 H1 S1 g1 ⟨i, j, e, ⟨e1, e2, e3, e4⟩, h2⟩ => by
    subst e
    obtain ⟨v, vs', rfl, g, g'⟩ := g1.inv_cons
    obtain ⟨v2, vs2, rfl, g2, g3⟩ := g'.inv_cons
    obtain ⟨w, rfl, g4⟩ := g3.one
    refine ⟨i, j, -1, _, by rw [g.int, g2.int, g4.int], RgC.neg e1 e2 e3 e4, q _ _ F1 H1 S1 ⟨fun k d e F' H' s f => ?_, fun F' H' s f => by simp [dwnD]; exact Nat.le_refl _⟩ h2⟩
    have hk : k < (i - j).toNat := by
      have := (List.getElem?_eq_some_iff.mp e).1
      simpa [dwnD] using this
    refine ⟨hk, fun x H'' ⟨e1, e2⟩ => ⟨F', ?_, ?_⟩⟩
    · subst e1; exact f.refl
    · subst e2
      simp [dwnD, hk] at e
      subst e
      rw [show i + (k : Int) * -1 = i - k by omega]
      exact .int _
/-- enumerate of a list -/
def enumD (ds : List D) : List D := ds.zipIdx.map fun p => D.tup [.int (p.2 : Int), p.1]
theorem enumD_get {i : Nat} {d : D} : (enumD ds)[i]? = some d → ∃ e, ds[i]? = some e ∧ d = .tup [.int (i : Int), e] := by
  intro h
  simp [enumD, List.getElem?_zipIdx] at h
  obtain ⟨e, h1, h2⟩ := h
  exact ⟨e, h1, h2.symm⟩
theorem enumD_len : (enumD ds).length = ds.length := by simp [enumD]
def T.il? : T → Option (List D)
  | .st (.lst ds) => some ds
  | _ => none
theorem il_eq {t : T} {ds : List D} (h : t.il? = some ds) : t = .st (.lst ds) := by
  unfold T.il? at h
  split at h
  · cases h; rfl
  · cases h
def wEnum (wr : AW) : IW := fun env Q => wr env fun ts => ∃ t ds, ts = [t] ∧ t.il? = some ds ∧ Q (enumD ds)
theorem so_enum (h : SoA K tr wr) : SoI K (iEnum K tr) (wEnum wr) := fun b F0 H0 F H σ env O Q' h1 R q =>
  h _ _ _ _ _ _ _ O _ h1 _ fun vs ts F1 H1 S1 g1 ⟨t, ds, e, e1, h2⟩ => by
    subst e
    obtain ⟨v, rfl, g⟩ := g1.one
    rw [il_eq e1] at g
    obtain ⟨a, xs, rfl, z1, z2⟩ := g.inv_st.inv_lst
    refine ⟨a, xs, rfl, SqL.up S1.sub z1, q _ _ F1 H1 S1 ⟨fun i d e F' H' s f => ?_, fun F' H' s f => ⟨xs, SqL.up f.1 (s _ _ z1), by rw [enumD_len, z2.length]; exact Nat.le_refl _⟩⟩ h2⟩
    obtain ⟨e0, e2, rfl⟩ := enumD_get e
    obtain ⟨w, h1, h2⟩ := z2.get e2
    refine ⟨⟨xs, w, SqL.up f.1 (s _ _ z1), h1⟩, fun x H'' ⟨T', x', e3, e4, e5, e6⟩ => ?_⟩
    subst e3 e5
    have e7 := e6 xs (SqL.up f.1 (s _ _ z1))
    rw [h1] at e7; cases e7
    have r2 : Reps K b F' [V.int (i : Int), w] [D.int (i : Int), e0] := .cons (.int _) (.cons (h2.mono s) .nil)
    obtain ⟨S, gg⟩ := Stp.got_newT f e4 r2
    exact ⟨_, S, gg.inv_st⟩
/-! ### comprehensions -/
theorem RepTs.append : ∀ {vs ws : List V} {ts us : List T} {f g : List Addr}, RepTs K b F H vs ts f → RepTs K b F H ws us g → RepTs K b F H (vs ++ ws) (ts ++ us) (f ++ g)
  | _, _, _, _, _, _, .nil, s => s
  | _, _, _, _, _, _, .cons h r, s => by
    rw [List.append_assoc]
    exact .cons h (RepTs.append r s)
theorem Stp.mutNew (S : Stp K b F H F' H') (n : H p = none) (n' : F' p = none) (e : Fit K b F H) : Stp K b F H F' (upd H' p o) := by
  refine ⟨S.ff, fun c u h => ?_, fun c u h nb => ?_, fun c u h => ?_, S.fk, fun c q x => ?_⟩
  · rw [upd_ne (ne_of_none h n')]; exact S.sub _ _ h
  · rw [upd_ne (ne_of_none h n)]; exact S.hh _ _ h nb
  · rw [upd_ne (ne_of_none h n)]; exact S.dm _ _ h
  · obtain ⟨x0, r, ns, k, x1, x2⟩ := S.bx c q x
    have hc : c ≠ p := by
      obtain ⟨_, _, _, _, y1, _⟩ := x
      exact ne_of_none y1 n
    exact ⟨x0, r, ns, k, by rw [upd_ne hc]; exact x1, x2⟩
def compW (f : D → (Option T → Prop) → Prop) : List D → (List T → Prop) → Prop
  | [], Q => Q []
  | d :: ds, Q => f d fun r => compW f ds fun ts => Q (r.toList ++ ts)
def wLc (wi : IW) (tg : Tgt) (wt : TW) (we : EW) (vs : List Nat) : EW := fun env Q => wi env fun ds => ds.length ≤ 100000 ∧
  compW (fun d R => ∃ env', setT tg d (wipeE env vs) = some env' ∧ wt env' fun c => if c = true then we env' fun t => R (some t) else R none) ds fun ts => Q (.vl ts)
def wYes : TW := fun _ Q => Q true
theorem so_yes : SoT K tYes wYes := fun b F0 H0 F H σ env O Q' h Q q => q true F H (.refl O.same) h
theorem drop_get {α : Type} {l : List α} {i : Nat} (h : i < l.length) : ∃ x, l[i]? = some x ∧ l.drop i = x :: l.drop (i + 1) := ⟨l[i], List.getElem?_eq_getElem h, List.drop_eq_getElem_cons h⟩
theorem so_lc {g : TG} {tg : Tgt} {vs : List Nat} (hi : SoI K wi wI) (hg : SoG K g tg) (hv : ∀ i ∈ tg.slots, i ∈ vs) (ht : SoT K tt wt) (he : SoN K te we) : SoN K (tLc wi g tt te vs) (wLc wI tg wt we vs) := fun b F0 H0 F H σ env O Q' h1 Q q =>
  hi _ _ _ _ _ _ _ O _ h1 _ fun J ds F1 H1 S1 Y ⟨hl, h2⟩ => by
    intro Dp hD
    have O1 := O.step S1
    have hDf : F1 Dp = none := O1.same.free hD
    refine ⟨fun i m H' => ∃ F' acc ts f, Stp K b F1 H1 F' H' ∧ H' Dp = some (.lst acc) ∧ F' Dp = none ∧ RepTs K b F' H' acc ts f ∧ f.Nodup ∧ (∀ a ∈ f, H1 a = none ∧ a ≠ Dp) ∧ acc.length ≤ i ∧ i ≤ ds.length ∧ m = ds.length - i ∧
      compW (fun d R => ∃ env', setT tg d (wipeE env vs) = some env' ∧ wt env' fun c => if c = true then we env' fun t => R (some t) else R none) (ds.drop i) (fun ts' => Q' (.vl (ts ++ ts'))),
      ⟨ds.length, F1, [], [], [], .skip O1.fit hD, upd_same, hDf, .nil, List.nodup_nil, (fun a m => by cases m), Nat.le_refl _, Nat.zero_le _, (by simp), (by simpa using h2)⟩, ?_⟩
    rintro i m H' ⟨F', acc, ts, f, S, eD, nD, rts, nf, kf, la, li, em, hc⟩
    have O' := O1.step S
    by_cases hlt : i < ds.length
    · obtain ⟨d, ed, ed'⟩ := drop_get hlt
      rw [ed'] at hc
      obtain ⟨env', es, ht'⟩ := hc
      obtain ⟨go, yl⟩ := Y.1 i d ed F' H' S.ff O'.fit
      refine .inr ⟨go, fun H'' => ∃ F' acc ts f, Stp K b F1 H1 F' H'' ∧ H'' Dp = some (.lst acc) ∧ F' Dp = none ∧ RepTs K b F' H'' acc ts f ∧ f.Nodup ∧ (∀ a ∈ f, H1 a = none ∧ a ≠ Dp) ∧ acc.length ≤ i + 1 ∧ i + 1 ≤ ds.length ∧ 
        compW (fun d R => ∃ env', setT tg d (wipeE env vs) = some env' ∧ wt env' fun c => if c = true then we env' fun t => R (some t) else R none) (ds.drop (i + 1)) (fun ts' => Q' (.vl (ts ++ ts'))),
        fun H'' ⟨F', acc, ts, f, z1, z2, z3, z4, z5, z6, z7, z8, z9⟩ => ⟨ds.length - (i + 1), by omega, F', acc, ts, f, z1, z2, z3, z4, z5, z6, z7, z8, rfl, z9⟩, fun x H2 y => ?_⟩
      obtain ⟨F2, S2, r2⟩ := yl x H2 y
      have O2 := (O'.step S2).wipe vs
      refine hg _ _ _ _ _ _ _ _ _ _ O2 r2 es _ fun σ2 O3 w2 => ⟨by rw [w2 vs hv, wipe_wipe], ?_⟩
      refine ht _ _ _ _ _ _ _ O3 _ ht' _ fun c F4 H4 S4 h4 => ?_
      have SA := (S.trans S2).trans S4
      have bD : ∀ a, b = some a → a ≠ Dp := fun a e z => by
        subst z
        obtain ⟨_, _, _, _, z, _⟩ := O1.bx a e
        rw [hD] at z; cases z
      have nbD : b ≠ some Dp := fun e => bD Dp e rfl
      have S24 := S2.trans S4
      have e4 : H4 Dp = some (.lst acc) := S24.hh _ _ eD nbD
      have n4 : F4 Dp = none := by rw [S24.fk _ _ eD]; exact nD
      have bf : ∀ a ∈ f, b ≠ some a := fun a m e => by
        obtain ⟨_, _, _, _, z, _⟩ := O1.bx a e
        rw [(kf a m).1] at z; cases z
      cases c with
      | false => exact ⟨F4, acc, ts, f, SA, e4, n4, rts.step S24 bf, nf, kf, by omega, by omega, by simpa using h4⟩
      | true =>
        rw [if_pos rfl] at h4
        rw [if_pos rfl]
        refine he _ _ _ _ _ _ _ (O3.step S4) _ h4 _ fun v t f' F5 H5 S5 r5 n5 new5 h5 => ?_
        have e5 : H5 Dp = some (.lst acc) := S5.hh _ _ e4 nbD
        have nn5 : F5 Dp = none := by rw [S5.fk _ _ e4]; exact n4
        refine ⟨acc, e5, Nat.lt_of_lt_of_le (by omega : acc.length < 1000000) (by decide), ?_⟩
        have S25 := S24.trans S5
        have SB := S.trans S25
        have rts5 := rts.step S25 bf
        have Dnf : Dp ∉ f := fun m => (kf Dp m).2 rfl
        have Dnf' : Dp ∉ f' := fun m => by rw [new5 Dp m] at e4; cases e4
        have dis : ∀ a ∈ f, ∀ c ∈ f', a ≠ c := fun a m c m' e => by
          subst e
          obtain ⟨_, o, eo⟩ := (rts.step S24 bf).known a m
          rw [new5 a m'] at eo; cases eo
        refine ⟨F5, acc ++ [v], ts ++ [t], f ++ f', SB.mutNew hD nn5 O1.fit, upd_same, nn5, ?_, List.nodup_append.mpr ⟨nf, n5, dis⟩, fun a m => ?_, by simp; omega, by omega, ?_⟩
        · have r6 := rts5.append (RepTs.cons r5 .nil)
          rw [List.append_nil] at r6
          refine r6.keep (fun _ _ z => z) fun a m => ⟨rfl, upd_ne ?_⟩
          rcases List.mem_append.mp m with m | m
          · exact fun e => Dnf (e ▸ m)
          · exact fun e => Dnf' (e ▸ m)
        · rcases List.mem_append.mp m with m | m
          · exact kf a m
          · refine ⟨?_, fun e => Dnf' (e ▸ m)⟩
            cases z : H1 a with
            | none => rfl
            | some o =>
              obtain ⟨o', z'⟩ := SA.dm a o z
              rw [new5 a m] at z'; cases z'
        · simpa using h5
    · have e : i = ds.length := by omega
      subst e
      rw [List.drop_length] at hc
      have hc : Q' (.vl (ts ++ [])) := hc
      rw [List.append_nil] at hc
      have nn : ∀ a, H1 a = none → H a = none := fun a z => by
        cases y : H a with
        | none => rfl
        | some o =>
          obtain ⟨o', y'⟩ := S1.dm a o y
          rw [z] at y'; cases y'
      refine .inl ⟨Y.2 F' H' S.ff O'.fit, q _ _ (Dp :: f) F' H' (S1.trans S) (.vl nD eD rts) (List.nodup_cons.mpr ⟨fun m => (kf Dp m).2 rfl, nf⟩) (fun a m => ?_) hc⟩
      rcases List.mem_cons.mp m with rfl | m
      · exact nn _ hD
      · exact nn _ (kf a m).1
end
end Pw
namespace Pw
open PySem PySem.Spec PyProof.Rows L2

section
variable {K : PySem.W.Frag} {b : Option Addr} {F H F' H' F'' H'' F0 H0 : Hp} {v w y : V} {vs : List V} {d : D} {ds : List D} {t u : T} {ts : List T} {f g fp : List Addr} {σ : L2.St} {env : Env} {a p : Addr} {o : HO}
variable {ta tb te tc td ty tx tk tj : TE} {wa wb we wc wd wk wx wj : EW} {tt tu : TT} {wt wu : TW} {tr : TA} {wr : AW} {wi : TI} {wI : IW}

/-! ### statements -/
structure EndsOk (K : PySem.W.Frag) (b : Option Addr) (F0 H0 F : Hp) (E : EndsW) (D : Ends) : Prop where
  nx : ∀ F' H' σ' env', Same F F' → Ok K b F0 H0 F' H' σ' env' → E.nx env' → D.nx σ' H'
  rt : ∀ v d F' H', Stp K b F0 H0 F' H' → Rep K b F' v d → E.rt d → D.rt v H'
  bk : ∀ F' H' σ' env', Same F F' → Ok K b F0 H0 F' H' σ' env' → E.bk env' → D.bk σ' H'
  ct : ∀ F' H' σ' env', Same F F' → Ok K b F0 H0 F' H' σ' env' → E.ct env' → D.ct σ' H'
  rv : ∀ v t f F' H', Stp K b F0 H0 F' H' → RepT K b F' H' v t f → f.Nodup → (∀ a ∈ f, H0 a = none) → E.rv t → D.rt v H'
def SoS (K : PySem.W.Frag) (t : TS) (w : SW) : Prop := ∀ (b : Option Addr) (F0 H0 F H : Hp) (σ : L2.St) (env : Env), Ok K b F0 H0 F H σ env → ∀ E : EndsW, w E env → ∀ D : Ends, EndsOk K b F0 H0 F E D → t D σ H
theorem EndsOk.up {E : EndsW} {D : Ends} (q : EndsOk K b F0 H0 F E D) (s : Same F F') : EndsOk K b F0 H0 F' E D :=
  ⟨fun F' H' σ' env' s' => q.nx F' H' σ' env' (s.trans s'), q.rt, fun F' H' σ' env' s' => q.bk F' H' σ' env' (s.trans s'), fun F' H' σ' env' s' => q.ct F' H' σ' env' (s.trans s'), q.rv⟩
def sNext : SW := fun E env => E.nx env
theorem so_next : SoS K tNext sNext := fun b F0 H0 F H σ env O E h D q => q.nx F H σ env (.refl F) O h
def sBrk : SW := fun E env => E.bk env
theorem so_brk : SoS K tBreak sBrk := fun b F0 H0 F H σ env O E h D q => q.bk F H σ env (.refl F) O h
def sCnt : SW := fun E env => E.ct env
theorem so_cnt : SoS K tCont sCnt := fun b F0 H0 F H σ env O E h D q => q.ct F H σ env (.refl F) O h
def sNever : SW := fun _ _ => False
theorem so_never : SoS K tNever sNever := fun b F0 H0 F H σ env O E h D q => h.elim
def sSeq (s1 s2 : SW) : SW := fun E env => s1 { E with nx := s2 E } env
theorem so_seq {t1 t2 : TS} {s1 s2 : SW} (h1 : SoS K t1 s1) (h2 : SoS K t2 s2) : SoS K (tSeq t1 t2) (sSeq s1 s2) := fun b F0 H0 F H σ env O E h D q =>
  h1 _ _ _ _ _ _ _ O _ h { D with nx := t2 D } ⟨fun F' H' σ' env' s O' h' => h2 _ _ _ _ _ _ _ O' E h' D (q.up s), q.rt, q.bk, q.ct, q.rv⟩
def sAsg (i : Nat) (we : EW) : SW := fun E env => we env fun t => ∃ d, t = .st d ∧ E.nx (env.set i (some (.st d)))
theorem so_asg {i : Nat} (h : SoE K te we) : SoS K (tAsg te (gName i)) (sAsg i we) := fun b F0 H0 F H σ env O E h1 D q =>
  h _ _ _ _ _ _ _ O _ h1 _ fun v t F1 H1 S1 g1 ⟨d, e, h2⟩ => by
    subst e
    exact q.nx F1 H1 _ _ S1.ff ((O.step S1).setD i g1.inv_st) h2
/-- a new tree is laid into a name -/
def sNew (i : Nat) (we : EW) : SW := fun E env => we env fun t => E.nx (env.set i (some t))
theorem so_new {i : Nat} (h : SoN K te we) : SoS K (tAsg te (gName i)) (sNew i we) := fun b F0 H0 F H σ env O E h1 D q =>
  h _ _ _ _ _ _ _ O _ h1 _ fun v t f F1 H1 S1 r1 n1 new h2 => q.nx F1 H1 _ _ S1.ff (O.setN S1 i r1 n1 new) h2
def sAsgT (tg : Tgt) (we : EW) : SW := fun E env => we env fun t => ∃ d env', t = .st d ∧ setT tg d env = some env' ∧ E.nx env'
theorem so_asgT {g : TG} {tg : Tgt} (h : SoE K te we) (hg : SoG K g tg) : SoS K (tAsg te g) (sAsgT tg we) := fun b F0 H0 F H σ env O E h1 D q =>
  h _ _ _ _ _ _ _ O _ h1 _ fun v t F1 H1 S1 g1 ⟨d, env', e, e1, h2⟩ => by
    subst e
    exact hg _ _ _ _ _ _ _ _ _ _ (O.step S1) g1.inv_st e1 _ fun σ' O' _ => q.nx F1 H1 _ _ S1.ff O' h2
/-- the tree of a name is changed no more -/
def sFrz (i : Nat) (s : SW) : SW := fun E env => ∃ t, env[i]? = some (some t) ∧ s E (env.set i (some (.st t.erase)))
theorem so_frz {i : Nat} {t1 : TS} {s1 : SW} (h1 : SoS K t1 s1) : SoS K t1 (sFrz i s1) := fun b F0 H0 F H σ env O E ⟨t, e, h⟩ D q => by
  obtain ⟨F', s, O'⟩ := O.freeze e
  exact h1 _ _ _ _ _ _ _ O' E h D (q.up s)
def sDrop (we : EW) : SW := fun E env => we env fun _ => E.nx env
theorem so_drop (h : SoE K te we) : SoS K (tDrop te) (sDrop we) := fun b F0 H0 F H σ env O E h1 D q =>
  h _ _ _ _ _ _ _ O _ h1 _ fun v t F1 H1 S1 g1 h2 => q.nx F1 H1 _ _ S1.ff (O.step S1) h2
def sRet (we : EW) : SW := fun E env => we env fun t => ∃ d, t = .st d ∧ E.rt d
theorem so_ret (h : SoE K te we) : SoS K (tRet te) (sRet we) := fun b F0 H0 F H σ env O E h1 D q =>
  h _ _ _ _ _ _ _ O _ h1 _ fun v t F1 H1 S1 g1 ⟨d, e, h2⟩ => by
    subst e
    exact q.rt v d F1 H1 (O.st.trans S1) g1.inv_st h2
/-- a new tree is handed back -/
def sRetV (we : EW) : SW := fun E env => we env fun t => E.rv t
theorem so_retV (h : SoN K te we) : SoS K (tRet te) (sRetV we) := fun b F0 H0 F H σ env O E h1 D q =>
  h _ _ _ _ _ _ _ O _ h1 _ fun v t f F1 H1 S1 r1 n1 new h2 => q.rv v t f F1 H1 (O.st.trans S1) r1 n1 (fun a m => by
    cases e : H0 a with
    | none => rfl
    | some o =>
      obtain ⟨o', e'⟩ := O.st.dm a o e
      rw [new a m] at e'; cases e') h2
def sRetN : SW := fun E _ => E.rt .non
theorem so_retN : SoS K tRetN sRetN := fun b F0 H0 F H σ env O E h D q => q.rt .non .non F H O.st .non h
def sIf (wt : TW) (s1 s2 : SW) : SW := fun E env => wt env fun c => if c = true then s1 E env else s2 E env
theorem so_ifS {t1 t2 : TS} {s1 s2 : SW} (h : SoT K tt wt) (h1 : SoS K t1 s1) (h2 : SoS K t2 s2) : SoS K (tIfS tt t1 t2) (sIf wt s1 s2) := fun b F0 H0 F H σ env O E h0 D q =>
  h _ _ _ _ _ _ _ O _ h0 _ fun c F1 H1 S1 h3 => by
    cases c with
    | true => exact h1 _ _ _ _ _ _ _ (O.step S1) E h3 D (q.up S1.ff)
    | false => exact h2 _ _ _ _ _ _ _ (O.step S1) E h3 D (q.up S1.ff)
def forW (tg : Tgt) (body : SW) (E : EndsW) : List D → Env → Prop
  | [], env => E.nx env
  | d :: ds, env => ∃ env', setT tg d env = some env' ∧ body { nx := forW tg body E ds, rt := E.rt, bk := E.nx, ct := forW tg body E ds, rv := E.rv } env'
def sFor (wi : IW) (tg : Tgt) (body : SW) : SW := fun E env => wi env fun ds => forW tg body E ds env
theorem so_for {g : TG} {tg : Tgt} {tb : TS} {body : SW} (hi : SoI K wi wI) (hg : SoG K g tg) (hb : SoS K tb body) : SoS K (tFor wi g tb) (sFor wI tg body) := fun b F0 H0 F H σ env O E h1 D q =>
  hi _ _ _ _ _ _ _ O _ h1 _ fun J ds F1 H1 S1 Y h2 => by
    refine ⟨fun i m σ' H' => ∃ F' env', Same F1 F' ∧ Ok K b F0 H0 F' H' σ' env' ∧ i ≤ ds.length ∧ m = ds.length - i ∧ forW tg body E (ds.drop i) env', ⟨ds.length, F1, env, .refl F1, O.step S1, Nat.zero_le _, by simp, by simpa using h2⟩, ?_⟩
    rintro i m σ' H' ⟨F', env', s, O', li, em, hf⟩
    by_cases hlt : i < ds.length
    · obtain ⟨d, ed, ed'⟩ := drop_get hlt
      rw [ed'] at hf
      obtain ⟨env2, e2, hb2⟩ := hf
      obtain ⟨go, yl⟩ := Y.1 i d ed F' H' s O'.fit
      refine .inr ⟨go, fun σ'' H'' => ∃ F' env', Same F1 F' ∧ Ok K b F0 H0 F' H'' σ'' env' ∧ forW tg body E (ds.drop (i + 1)) env', fun σ'' H'' ⟨F', env', z1, z2, z3⟩ => ⟨ds.length - (i + 1), by omega, F', env', z1, z2, by omega, rfl, z3⟩, fun x H2 y => ?_⟩
      obtain ⟨F2, S2, r2⟩ := yl x H2 y
      have s2 : Same F1 F2 := s.trans S2.ff
      refine hg _ _ _ _ _ _ _ _ _ _ (O'.step S2) r2 e2 _ fun σ2 O2 _ => ?_
      refine hb _ _ _ _ _ _ _ O2 _ hb2 _ ⟨fun F3 H3 σ3 env3 s3 O3 h3 => ⟨F3, env3, s2.trans s3, O3, h3⟩, q.rt, fun F3 H3 σ3 env3 s3 O3 h3 => q.nx F3 H3 σ3 env3 (S1.ff.trans (s2.trans s3)) O3 h3, fun F3 H3 σ3 env3 s3 O3 h3 => ⟨F3, env3, s2.trans s3, O3, h3⟩, q.rv⟩
    · have e : i = ds.length := by omega
      subst e
      rw [List.drop_length] at hf
      exact .inl ⟨Y.2 F' H' s O'.fit, q.nx F' H' σ' env' (S1.ff.trans s) O' hf⟩
def sWhile (wt : TW) (body : SW) : SW := fun E env => ∃ W : Nat → Env → Prop, (∃ m, W m env) ∧ ∀ m env, W m env → wt env fun c => if c = true then
  body { nx := fun env' => ∃ m', m' < m ∧ W m' env', rt := E.rt, bk := E.nx, ct := fun env' => ∃ m', m' < m ∧ W m' env', rv := E.rv } env else E.nx env
theorem so_while {tb : TS} {body : SW} (h : SoT K tt wt) (hb : SoS K tb body) : SoS K (tWhile tt tb) (sWhile wt body) := fun b F0 H0 F H σ env O E ⟨W, ⟨m0, w0⟩, turn⟩ D q => by
  refine ⟨fun m σ' H' => ∃ F' env', Same F F' ∧ Ok K b F0 H0 F' H' σ' env' ∧ W m env', ⟨m0, F, env, .refl F, O, w0⟩, ?_⟩
  rintro m σ' H' ⟨F', env', s, O', w'⟩
  refine h _ _ _ _ _ _ _ O' _ (turn m env' w') _ fun c F1 H1 S1 h1 => ?_
  cases c with
  | false => exact q.nx F1 H1 _ _ (s.trans S1.ff) (O'.step S1) h1
  | true =>
    refine ⟨fun σ'' H'' => ∃ m', m' < m ∧ ∃ F' env', Same F F' ∧ Ok K b F0 H0 F' H'' σ'' env' ∧ W m' env', fun σ'' H'' z => z, ?_⟩
    have s1 := s.trans S1.ff
    exact hb _ _ _ _ _ _ _ (O'.step S1) _ h1 _ ⟨fun F3 H3 σ3 env3 s3 O3 ⟨m', l, z⟩ => ⟨m', l, F3, env3, s1.trans s3, O3, z⟩, q.rt, fun F3 H3 σ3 env3 s3 O3 h3 => q.nx F3 H3 σ3 env3 (s1.trans s3) O3 h3, fun F3 H3 σ3 env3 s3 O3 ⟨m', l, z⟩ => ⟨m', l, F3, env3, s1.trans s3, O3, z⟩, q.rv⟩
/-- x += e, x -= e of ints -/
def sAugI (i : Nat) (op : Int → Int → Int) (we : EW) : SW := fun E env => ∃ x, env[i]? = some (some (.st (.int x))) ∧ we env fun t => ∃ y, t = .st (.int y) ∧ E.nx (env.set i (some (.st (.int (op x y)))))
theorem so_augI {i : Nat} {op : Int → Int → Int} (h : SoE K te we) : SoS K (tAug i te (ipI op)) (sAugI i op we) := fun b F0 H0 F H σ env O E ⟨x, e, h1⟩ D q => by
  obtain ⟨v, f, h3, h4, h5⟩ := O.get e
  have hv : v = .int x := Got.int ⟨f, h4, h5⟩
  subst hv
  refine ⟨_, h3, h _ _ _ _ _ _ _ O _ h1 _ fun w t F1 H1 S1 g1 ⟨y, e1, h2⟩ => ?_⟩
  subst e1
  exact ⟨x, y, rfl, g1.int, q.nx F1 H1 _ _ S1.ff ((O.step S1).setD i (.int _)) h2⟩

/-! ### trees changed -/
def T.ch : T → List T
  | .vl ts => ts
  | .vk es => es.map (·.2)
  | .vt es => es.map (·.2)
  | .st _ => []
def setV {κ : Type} (es : List (κ × T)) (j : Nat) (u : T) : List (κ × T) := match es[j]? with | some p => es.set j (p.1, u) | none => es
def T.setCh : T → Nat → T → T
  | .vl ts, j, u => .vl (ts.set j u)
  | .vk es, j, u => .vk (setV es j u)
  | .vt es, j, u => .vt (setV es j u)
  | t, _, _ => t
def posK {κ : Type} [DecidableEq κ] (es : List (κ × T)) (k : κ) : Option Nat := es.findIdx? fun p => decide (p.1 = k)
def T.pos? : T → D → Option Nat
  | .vl ts, .int i => ixN ts.length i
  | .vk es, k => (kK k).bind fun k => posK es k
  | .vt es, k => (kM k).bind fun k => posK es k
  | _, _ => none
def T.sz : T → Nat
  | .vl ts => ts.length
  | .vk es => es.length
  | .vt es => es.length
  | .st _ => 0
def putL {κ : Type} [DecidableEq κ] (es : List (κ × T)) (k : κ) (u : T) : List (κ × T) :=
  if (es.any fun kv => decide (kv.1 = k)) = true then es.map (fun kv => if kv.1 = k then (kv.1, u) else kv) else es ++ [(k, u)]
def T.put? : T → D → D → Option T
  | .vl ts, .int i, d => (ixN ts.length i).map fun j => .vl (ts.set j (.st d))
  | .vk es, k, d => (kK k).map fun k => .vk (putL es k (.st d))
  | .vt es, k, d => (kM k).map fun k => .vt (putL es k (.st d))
  | _, _, _ => none
theorem setV_fst {κ : Type} (es : List (κ × T)) (j : Nat) (u : T) : (setV es j u).map (·.1) = es.map (·.1) := by
  unfold setV
  split
  · rename_i p e
    apply List.ext_getElem?
    intro i
    simp only [List.getElem?_map, List.getElem?_set]
    by_cases h : j = i
    · subst h
      obtain ⟨h1, h2⟩ := List.getElem?_eq_some_iff.mp e
      simp [h1, ← h2]
    · simp [h]
  · rfl
theorem setV_snd {κ : Type} (es : List (κ × T)) (j : Nat) (u : T) : (setV es j u).map (·.2) = (es.map (·.2)).set j u := by
  unfold setV
  split
  · rename_i p e
    rw [List.map_set]
  · rename_i e
    rw [List.set_eq_of_length_le]
    simpa using e
theorem RepTs.focus : ∀ {vs : List V} {ts : List T} {f : List Addr} {j : Nat} {t : T}, RepTs K b F H vs ts f → ts[j]? = some t →
    ∃ v l g r, vs[j]? = some v ∧ f = l ++ (g ++ r) ∧ RepT K b F H v t g ∧ ∀ (F' H' : Hp) (t' : T) (g' : List Addr), Same F F' → (∀ a, a ∈ l ∨ a ∈ r → F' a = F a ∧ H' a = H a) → RepT K b F' H' v t' g' → RepTs K b F' H' vs (ts.set j t') (l ++ (g' ++ r))
  | _, _, _, _, _, .nil, h => by simp at h
  | _, _, _, 0, _, .cons h0 r, h => by
    simp at h
    subst h
    refine ⟨_, [], _, _, rfl, rfl, h0, fun F' H' t' g' e k q => ?_⟩
    rw [List.nil_append]
    exact .cons q (r.keep e fun a m => k a (.inr m))
  | _, _, _, j + 1, _, .cons (f := f1) h0 r, h => by
    obtain ⟨v, l, g, r', h1, h2, h3, h4⟩ := RepTs.focus (j := j) r (by simpa using h)
    refine ⟨v, f1 ++ l, g, r', by simpa using h1, by rw [h2, List.append_assoc], h3, fun F' H' t' g' e k q => ?_⟩
    rw [List.append_assoc]
    exact .cons (h0.keep e fun a m => k a (.inl (List.mem_append_left _ m))) (h4 F' H' t' g' e (fun a m => k a (m.imp (List.mem_append_right _) id)) q)
/-- a child in a tree -/
theorem RepT.child {j : Nat} (h : RepT K b F H v t f) (nf : f.Nodup) (e : t.ch[j]? = some u) : ∃ w g, RepT K b F H w u g ∧ g.Nodup ∧ (∀ a ∈ g, a ∈ f) ∧
    (∀ (a : Addr) (xs : List V), v = .ref a → H a = some (.lst xs) → xs[j]? = some w) ∧ (∀ (a : Addr) (kvs : List (Key × V)), v = .ref a → H a = some (.dK kvs) → (kvs[j]?).map (·.2) = some w) ∧ (∀ (a : Addr) (kvs : List (List Key × V)), v = .ref a → H a = some (.dT kvs) → (kvs[j]?).map (·.2) = some w) ∧
    ∀ (H' : Hp) (u' : T) (g' : List Addr), (∀ a o, a ∉ g → H a = some o → H' a = some o) → RepT K b F H' w u' g' → g'.Nodup → (∀ a ∈ g', a ∈ g ∨ H a = none) → ∃ f', RepT K b F H' v (t.setCh j u') f' ∧ f'.Nodup ∧ ∀ a ∈ f', a ∈ f ∨ H a = none := by
  have key : ∀ {a : Addr} {vs : List V} {ts : List T} {fs : List Addr}, RepTs K b F H vs ts fs → (a :: fs).Nodup → (∃ o, H a = some o) → ts[j]? = some u → ∃ w g, vs[j]? = some w ∧ RepT K b F H w u g ∧ g.Nodup ∧ (∀ c ∈ g, c ∈ fs) ∧
      ∀ (H' : Hp) (u' : T) (g' : List Addr), (∀ a o, a ∉ g → H a = some o → H' a = some o) → RepT K b F H' w u' g' → g'.Nodup → (∀ a ∈ g', a ∈ g ∨ H a = none) → ∃ fs', RepTs K b F H' vs (ts.set j u') fs' ∧ (a :: fs').Nodup ∧ (∀ c ∈ a :: fs', c ∈ a :: fs ∨ H c = none) ∧ H' a = H a := by
    intro a vs ts fs r n hk e
    obtain ⟨w, l, g, r', h1, rfl, h3, h4⟩ := r.focus e
    obtain ⟨na, n'⟩ := List.nodup_cons.mp n
    have ng : g.Nodup := (List.nodup_append.mp (List.nodup_append.mp n').2.1).1
    refine ⟨w, g, h1, h3, ng, fun c m => List.mem_append_right _ (List.mem_append_left _ m), fun H' u' g' q1 q2 q3 q4 => ?_⟩
    have ag : a ∉ g := fun m => na (List.mem_append_right _ (List.mem_append_left _ m))
    obtain ⟨o, eo⟩ := hk
    have ea : H' a = H a := by rw [eo]; exact q1 a o ag eo
    have kn : ∀ c, c ∈ l ∨ c ∈ r' → (∃ o, H c = some o) ∧ c ∉ g := fun c m => by
      obtain ⟨a1, a2, a3⟩ := List.nodup_append.mp n'
      obtain ⟨b1, b2, b3⟩ := List.nodup_append.mp a2
      refine ⟨(r.known c (m.elim (fun z => List.mem_append_left _ z) fun z => List.mem_append_right _ (List.mem_append_right _ z))).2, fun m' => ?_⟩
      rcases m with m | m
      · exact a3 c m c (List.mem_append_left _ m') rfl
      · exact b3 c m' c m rfl
    refine ⟨l ++ (g' ++ r'), h4 F H' u' g' (fun _ _ z => z) (fun c m => ⟨rfl, ?_⟩) q2, List.nodup_cons.mpr ⟨fun m => ?_, nodup_mid n' q3 fun c m => ?_⟩, fun c m => ?_, ea⟩
    · obtain ⟨⟨o, eo⟩, nc⟩ := kn c m
      rw [eo]; exact q1 c o nc eo
    · rcases List.mem_append.mp m with m | m
      · exact na (List.mem_append_left _ m)
      · rcases List.mem_append.mp m with m | m
        · rcases q4 a m with z | z
          · exact ag z
          · rw [eo] at z; cases z
        · exact na (List.mem_append_right _ (List.mem_append_right _ m))
    · rcases q4 c m with z | z
      · exact .inl z
      · refine .inr ⟨fun y => ?_, fun y => ?_⟩
        · obtain ⟨⟨o, e⟩, _⟩ := kn c (.inl y)
          rw [z] at e; cases e
        · obtain ⟨⟨o, e⟩, _⟩ := kn c (.inr y)
          rw [z] at e; cases e
    · rcases List.mem_cons.mp m with rfl | m
      · exact .inl (.head _)
      · rcases List.mem_append.mp m with m | m
        · exact .inl (.tail _ (List.mem_append_left _ m))
        · rcases List.mem_append.mp m with m | m
          · rcases q4 c m with z | z
            · exact .inl (.tail _ (List.mem_append_right _ (List.mem_append_left _ z)))
            · exact .inr z
          · exact .inl (.tail _ (List.mem_append_right _ (List.mem_append_right _ m)))
  cases h with
  | st _ => simp [T.ch] at e
  | vl h1 h2 r =>
    obtain ⟨w, g, k1, k2, k3, k4, k5⟩ := key r nf ⟨_, h2⟩ e
    refine ⟨w, g, k2, k3, fun a m => .tail _ (k4 a m), fun a xs z1 z2 => ?_, fun a xs z1 z2 => ?_, fun a xs z1 z2 => ?_, fun H' u' g' q1 q2 q3 q4 => ?_⟩
    · cases z1; rw [h2] at z2; cases z2; exact k1
    · cases z1; rw [h2] at z2; cases z2
    · cases z1; rw [h2] at z2; cases z2
    · obtain ⟨fs', p1, p2, p3, p4⟩ := k5 H' u' g' q1 q2 q3 q4
      exact ⟨_, .vl h1 (by rw [p4]; exact h2) p1, p2, p3⟩
  | vk h1 h2 h3 r =>
    obtain ⟨w, g, k1, k2, k3, k4, k5⟩ := key r nf ⟨_, h2⟩ e
    refine ⟨w, g, k2, k3, fun a m => .tail _ (k4 a m), fun a xs z1 z2 => ?_, fun a xs z1 z2 => ?_, fun a xs z1 z2 => ?_, fun H' u' g' q1 q2 q3 q4 => ?_⟩
    · cases z1; rw [h2] at z2; cases z2
    · cases z1; rw [h2] at z2; cases z2; rw [← List.getElem?_map]; exact k1
    · cases z1; rw [h2] at z2; cases z2
    · obtain ⟨fs', p1, p2, p3, p4⟩ := k5 H' u' g' q1 q2 q3 q4
      exact ⟨_, .vk h1 (by rw [p4]; exact h2) (by rw [setV_fst]; exact h3) (by rw [setV_snd]; exact p1), p2, p3⟩
  | vt h1 h2 h3 r =>
    obtain ⟨w, g, k1, k2, k3, k4, k5⟩ := key r nf ⟨_, h2⟩ e
    refine ⟨w, g, k2, k3, fun a m => .tail _ (k4 a m), fun a xs z1 z2 => ?_, fun a xs z1 z2 => ?_, fun a xs z1 z2 => ?_, fun H' u' g' q1 q2 q3 q4 => ?_⟩
    · cases z1; rw [h2] at z2; cases z2
    · cases z1; rw [h2] at z2; cases z2
    · cases z1; rw [h2] at z2; cases z2; rw [← List.getElem?_map]; exact k1
    · obtain ⟨fs', p1, p2, p3, p4⟩ := k5 H' u' g' q1 q2 q3 q4
      exact ⟨_, .vt h1 (by rw [p4]; exact h2) (by rw [setV_fst]; exact h3) (by rw [setV_snd]; exact p1), p2, p3⟩
/-- a list grows -/
theorem RepT.app (h : RepT K b F H v (.vl ts) f) (nf : f.Nodup) (hy : Rep K b F y d) : ∃ l xs, v = .ref l ∧ H l = some (.lst xs) ∧ xs.length = ts.length ∧ l ∈ f ∧ RepT K b F (upd H l (.lst (xs ++ [y]))) v (.vl (ts ++ [.st d])) f := by
  cases h with
  | vl h1 h2 r =>
    obtain ⟨na, _⟩ := List.nodup_cons.mp nf
    refine ⟨_, _, rfl, h2, r.length, .head _, .vl h1 upd_same ?_⟩
    have r2 := r.append (RepTs.cons (.st hy) .nil)
    rw [List.append_nil, List.append_nil] at r2
    exact r2.keep (fun _ _ z => z) fun a m => ⟨rfl, upd_ne fun e => na (e ▸ m)⟩
theorem RepTs.setD : ∀ {vs : List V} {ts : List T} {f : List Addr} (j : Nat), RepTs K b F H vs ts f → Rep K b F y d → ∃ f', RepTs K b F H (vs.set j y) (ts.set j (.st d)) f' ∧ f'.Sublist f
  | _, _, _, _, .nil, _ => ⟨[], .nil, .refl _⟩
  | _, _, _, 0, .cons (f := f1) (g := g1) h r, hy => ⟨g1, by have := RepTs.cons (.st hy) r; simpa using this, List.sublist_append_right _ _⟩
  | _, _, _, j + 1, .cons h r, hy => by
    obtain ⟨f', r', s⟩ := RepTs.setD j r hy
    exact ⟨_, .cons h r', s.append_left _⟩
theorem any_fst {κ : Type} [DecidableEq κ] {α β : Type} (k : κ) : ∀ {kvs : List (κ × α)} {es : List (κ × β)}, kvs.map (·.1) = es.map (·.1) → (kvs.any fun kv => decide (kv.1 = k)) = (es.any fun kv => decide (kv.1 = k))
  | [], [], _ => rfl
  | [], _ :: _, e => by simp at e
  | _ :: _, [], e => by simp at e
  | (k1, v1) :: kvs, (k2, d2) :: es, e => by
    simp at e
    obtain ⟨rfl, e⟩ := e
    simp only [List.any_cons]
    rw [any_fst k e]
theorem putMap {κ : Type} [DecidableEq κ] (k : κ) (hy : Rep K b F y d) : ∀ {kvs : List (κ × V)} {es : List (κ × T)} {f : List Addr}, kvs.map (·.1) = es.map (·.1) → RepTs K b F H (kvs.map (·.2)) (es.map (·.2)) f →
    ∃ f', RepTs K b F H ((kvs.map fun kv => if kv.1 = k then (kv.1, y) else kv).map (·.2)) ((es.map fun kv => if kv.1 = k then (kv.1, T.st d) else kv).map (·.2)) f' ∧ f'.Sublist f ∧
      (kvs.map fun kv => if kv.1 = k then (kv.1, y) else kv).map (·.1) = (es.map fun kv => if kv.1 = k then (kv.1, T.st d) else kv).map (·.1)
  | [], [], _, _, r => ⟨_, r, .refl _, rfl⟩
  | [], _ :: _, _, e, _ => by simp at e
  | _ :: _, [], _, e, _ => by simp at e
  | (k1, v1) :: kvs, (k2, t2) :: es, f, e, r => by
    simp at e
    obtain ⟨rfl, e⟩ := e
    have r2 : RepTs K b F H (v1 :: kvs.map (·.2)) (t2 :: es.map (·.2)) f := r
    clear r
    cases r2 with
    | cons h r =>
      obtain ⟨f', r', s, e'⟩ := putMap k hy e r
      by_cases q : k1 = k
      · subst q
        refine ⟨f', ?_, s.trans (List.sublist_append_right _ _), by simpa using e'⟩
        have := RepTs.cons (.st hy) r'
        simpa using this
      · refine ⟨_, ?_, s.append_left _, by simpa [q] using e'⟩
        have := RepTs.cons h r'
        simpa [q] using this
theorem put_rep {κ : Type} [DecidableEq κ] (k : κ) (hy : Rep K b F y d) {kvs : List (κ × V)} {es : List (κ × T)} {f : List Addr} (e : kvs.map (·.1) = es.map (·.1)) (r : RepTs K b F H (kvs.map (·.2)) (es.map (·.2)) f) :
    ∃ f', RepTs K b F H ((putK kvs k y).map (·.2)) ((putL es k (.st d)).map (·.2)) f' ∧ f'.Sublist f ∧ (putK kvs k y).map (·.1) = (putL es k (.st d)).map (·.1) := by
  unfold putK putL
  rw [any_fst k e]
  by_cases q : (es.any fun kv => decide (kv.1 = k)) = true
  · rw [if_pos q, if_pos q]
    exact putMap k hy e r
  · rw [if_neg q, if_neg q]
    have r2 := r.append (RepTs.cons (.st hy) .nil)
    rw [List.append_nil, List.append_nil] at r2
    exact ⟨f, by simpa using r2, .refl _, by simp [e]⟩
/-- a place of a tree is set -/
theorem RepT.put {xk : V} {kd : D} (h : RepT K b F H v t f) (nf : f.Nodup) (hy : Rep K b F y d) (hk : Rep K b F xk kd) (s : Same F H) (sz : t.sz ≤ 100000) (e : t.put? kd d = some u) :
    ∃ l o f', v = .ref l ∧ l ∈ f ∧ RepT K b F (upd H l o) v u f' ∧ f'.Sublist f ∧ ∀ Q : Hp → Prop, Q (upd H l o) → rSetA v xk y H Q := by
  have big : ∀ {n : Nat}, n ≤ 100000 → n < sizeLine := fun h => Nat.lt_of_le_of_lt h (by decide)
  cases h with
  | st _ => simp [T.put?] at e
  | vl h1 h2 r =>
    cases kd <;> simp only [T.put?, reduceCtorEq, Option.map_eq_some_iff] at e
    case int i =>
      obtain ⟨j, e1, rfl⟩ := e
      obtain ⟨na, _⟩ := List.nodup_cons.mp nf
      obtain ⟨f', r', s'⟩ := r.setD j hy
      refine ⟨_, _, _, rfl, .head _, .vl h1 upd_same (r'.keep (fun _ _ z => z) fun a m => ⟨rfl, upd_ne fun e => na (e ▸ s'.subset m)⟩), s'.cons_cons _, fun Q q => .inl ⟨_, _, i, j, rfl, hk.inv_int, h2, by rw [r.length]; exact e1, q⟩⟩
  | vk h1 h2 h3 r =>
    simp only [T.put?, Option.map_eq_some_iff] at e
    obtain ⟨k, e1, rfl⟩ := e
    obtain ⟨na, _⟩ := List.nodup_cons.mp nf
    obtain ⟨f', r', s', e'⟩ := put_rep k hy h3 r
    have ll := congrArg List.length h3
    rw [List.length_map, List.length_map] at ll
    refine ⟨_, _, _, rfl, .head _, .vk h1 upd_same e' (r'.keep (fun _ _ z => z) fun a m => ⟨rfl, upd_ne fun e => na (e ▸ s'.subset m)⟩), s'.cons_cons _, fun Q q => .inr ⟨_, _, rfl, .inl ⟨_, k, h2, hk.kK e1, by rw [ll]; exact big sz, rfl⟩, q⟩⟩
  | vt h1 h2 h3 r =>
    simp only [T.put?, Option.map_eq_some_iff] at e
    obtain ⟨k, e1, rfl⟩ := e
    obtain ⟨na, _⟩ := List.nodup_cons.mp nf
    obtain ⟨f', r', s', e'⟩ := put_rep k hy h3 r
    obtain ⟨c, rfl, hc⟩ := kM_rep hk s e1
    have ll := congrArg List.length h3
    rw [List.length_map, List.length_map] at ll
    refine ⟨_, _, _, rfl, .head _, .vt h1 upd_same e' (r'.keep (fun _ _ z => z) fun a m => ⟨rfl, upd_ne fun e => na (e ▸ s'.subset m)⟩), s'.cons_cons _, fun Q q => .inr ⟨_, _, rfl, .inr ⟨_, k, c, h2, rfl, hc, by rw [ll]; exact big sz, rfl⟩, q⟩⟩
theorem upd_keep {a l : Addr} (h : a ∉ f) (m : l ∈ f) (e : H a = some o) {o' : HO} : upd H l o' a = some o := by
  have n : a ≠ l := fun z => h (by rw [z]; exact m)
  rw [upd_ne n]; exact e
theorem upd_there {a l : Addr} {o' : HO} (h : ∃ o, H a = some o) : ∃ o, upd H l o' a = some o := by
  by_cases e : a = l
  · subst e; exact ⟨_, upd_same⟩
  · rw [upd_ne e]; exact h
theorem opt_some {α : Type} {a c : α} {x : Option (Option α)} (h : x = some (some a)) (h' : x = some (some c)) : a = c := by
  rw [h] at h'; cases h'; rfl
/-! ### x.append(e) -/
def sApp (i : Nat) (we : EW) : SW := fun E env => ∃ ts, env[i]? = some (some (.vl ts)) ∧ ts.length ≤ 100000 ∧ we env fun t => ∃ d, t = .st d ∧ E.nx (env.set i (some (.vl (ts ++ [.st d]))))
theorem so_app {i : Nat} (he : SoE K te we) : SoS K (tDrop (tBM K "list" rAppend (tVar i) (tCons te tNil))) (sApp i we) := fun b F0 H0 F H σ env O E ⟨ts, e, hl, h⟩ D q => by
  obtain ⟨v, f, h3, h4, h5⟩ := O.get e
  refine ⟨v, h3, ?_, he _ _ _ _ _ _ _ O _ h _ fun y ty F1 H1 S1 g1 ⟨d, e1, h2⟩ => ?_⟩
  · cases h4 with
    | vl z0 z1 z2 => exact .inl ⟨rfl, _, SqL.of z1⟩
  · subst e1
    obtain ⟨v', f', e2, r2, nf, kf, mk⟩ := (O.step S1).mut e
    have := opt_some h3 e2
    subst this
    obtain ⟨l, xs, rfl, hx, lx, ml, r3⟩ := r2.app nf g1.inv_st
    refine ⟨l, xs, y, rfl, rfl, hx, by rw [lx]; exact Nat.lt_of_le_of_lt hl (by decide), q.nx F1 _ _ _ S1.ff (mk _ _ f' (fun a o m z => upd_keep m ml z) (fun a m => upd_there (r2.known a m).2) r3 nf fun a m => .inl m) h2⟩
/-! ### x[k] = e -/
def sSet (i : Nat) (wk we : EW) : SW := fun E env => we env fun u => ∃ t, env[i]? = some (some t) ∧ wk env fun k => ∃ d kd t', u = .st d ∧ k = .st kd ∧ t.sz ≤ 100000 ∧ t.put? kd d = some t' ∧ E.nx (env.set i (some t'))
theorem so_set {i : Nat} (hk : SoE K tk wk) (he : SoE K te we) : SoS K (tAsg te (gSub (tVar i) tk rSetA)) (sSet i wk we) := fun b F0 H0 F H σ env O E h D q =>
  he _ _ _ _ _ _ _ O _ h _ fun y ty F1 H1 S1 g1 ⟨t, et, h1⟩ => by
    have O1 := O.step S1
    obtain ⟨v, f, h3, h4, h5⟩ := O1.get et
    refine ⟨v, h3, hk _ _ _ _ _ _ _ O1 _ h1 _ fun k tk F2 H2 S2 g2 ⟨d, kd, t', e1, e2, sz, e3, h2⟩ => ?_⟩
    subst e1 e2
    have O2 := O1.step S2
    obtain ⟨v', f', e4, r2, nf, kf, mk⟩ := O2.mut et
    have := opt_some h3 e4
    subst this
    obtain ⟨l, o, f'', rfl, ml, r3, sl, rs⟩ := r2.put nf (g1.step S2).inv_st g2.inv_st O2.same sz e3
    exact rs _ (q.nx F2 _ _ _ (S1.ff.trans S2.ff) (mk _ _ f'' (fun a o m z => upd_keep m ml z) (fun a m => upd_there (r2.known a m).2) r3 (nf.sublist sl) fun a m => .inl (sl.subset m)) h2)
/-! ### x[k][j] = e, x[k].append(e) -/
theorem findIdx_look {κ : Type} [DecidableEq κ] {es : List (κ × T)} {k : κ} {p : Nat} (h : posK es k = some p) : ∃ u, es[p]? = some (k, u) ∧ look es k = some u := by
  unfold posK at h
  rw [List.findIdx?_eq_some_iff_getElem] at h
  obtain ⟨h1, h2, h3⟩ := h
  have h2 : es[p].1 = k := of_decide_eq_true h2
  refine ⟨es[p].2, by rw [List.getElem?_eq_getElem h1, ← h2], ?_⟩
  unfold look
  have : es.find? (fun q => decide (q.1 = k)) = some es[p] := by
    rw [List.find?_eq_some_iff_getElem]
    exact ⟨by simp [h2], p, h1, rfl, fun j hj => by have := h3 j hj; simpa using this⟩
  rw [this]; rfl
/-- the child's value is what a subscript gives -/
theorem Got.pos {p : Nat} {xk : V} {kd : D} (h : Got K b F H v t) (s : Fit K b F H) (hk : Rep K b F xk kd) (e : t.pos? kd = some p) (eu : t.ch[p]? = some u) : ∃ w, Got K b F H w u ∧ (∀ Q : VK, Q w H → rGetA K v xk H Q) ∧
    (∀ (a : Addr) (xs : List V), v = .ref a → H a = some (.lst xs) → xs[p]? = some w) ∧ (∀ (a : Addr) (kvs : List (Key × V)), v = .ref a → H a = some (.dK kvs) → (kvs[p]?).map (·.2) = some w) ∧ (∀ (a : Addr) (kvs : List (List Key × V)), v = .ref a → H a = some (.dT kvs) → (kvs[p]?).map (·.2) = some w) ∧
    (∀ (a : Addr) (kvs : List (Key × V)) (key : Key), v = .ref a → H a = some (.dK kvs) → kK kd = some key → valV kvs key = some w) := by
  obtain ⟨f, rt, kb⟩ := h
  have aux : ∀ {κ : Type} [DecidableEq κ] {kvs : List (κ × V)} {es : List (κ × T)} {f : List Addr} {k : κ}, kvs.map (·.1) = es.map (·.1) → RepTs K b F H (kvs.map (·.2)) (es.map (·.2)) f → posK es k = some p → (es.map (·.2))[p]? = some u → ∃ w g, (kvs[p]?).map (·.2) = some w ∧ valV kvs k = some w ∧ RepT K b F H w u g ∧ ∀ a ∈ g, a ∈ f := by
    intro κ _ kvs es f k h3 r e1 eu
    obtain ⟨w, g, z1, z2, z3⟩ := r.get eu
    rw [List.getElem?_map] at z1
    refine ⟨w, g, z1, ?_, z2, z3⟩
    unfold posK at e1
    rw [List.findIdx?_eq_some_iff_getElem] at e1
    obtain ⟨h1, h2, h4⟩ := e1
    have ll := congrArg List.length h3
    rw [List.length_map, List.length_map] at ll
    have fs : ∀ (j : Nat) (h : j < es.length), (kvs[j]'(by omega)).1 = es[j].1 := fun j h => by
      have := congrArg (fun l => l[j]?) h3
      simp only [List.getElem?_map] at this
      rw [List.getElem?_eq_getElem h, List.getElem?_eq_getElem (show j < kvs.length by omega)] at this
      simpa using this
    unfold valV
    have : kvs.find? (fun q => decide (q.1 = k)) = some (kvs[p]'(by omega)) := by
      rw [List.find?_eq_some_iff_getElem]
      refine ⟨?_, p, by omega, rfl, fun j hj => ?_⟩
      · rw [fs p h1]; exact h2
      · have := h4 j hj
        rw [← fs j (by omega)] at this
        simpa using this
    rw [this]
    rw [List.getElem?_eq_getElem (show p < kvs.length by omega)] at z1
    exact z1
  cases rt with
  | st _ => simp [T.ch] at eu
  | vl h1 h2 r =>
    cases kd <;> simp only [T.pos?, reduceCtorEq] at e
    case int i =>
      obtain ⟨w, g, z1, z2, z3⟩ := r.get eu
      refine ⟨w, ⟨g, z2, fun a m => kb a (.tail _ (z3 a m))⟩, fun Q q => .inl (.inl ⟨_, _, i, w, rfl, hk.inv_int, .inl (.inl h2), ?_, q⟩), fun a xs y1 y2 => ?_, fun a xs y1 y2 => ?_, fun a xs y1 y2 => ?_, fun a xs key y1 y2 y3 => ?_⟩
      · unfold L2.atI
        rw [r.length, e]
        exact z1
      · cases y1; rw [h2] at y2; cases y2; exact z1
      · cases y1; rw [h2] at y2; cases y2
      · cases y1; rw [h2] at y2; cases y2
      · cases y1; rw [h2] at y2; cases y2
  | vk h1 h2 h3 r =>
    simp only [T.pos?, Option.bind_eq_some_iff] at e
    obtain ⟨k, k1, e1⟩ := e
    obtain ⟨w, g, z1, z0, z2, z3⟩ := aux h3 r e1 eu
    refine ⟨w, ⟨g, z2, fun a m => kb a (.tail _ (z3 a m))⟩, fun Q q => .inr ⟨_, w, rfl, .inl ⟨_, k, .inl h2, hk.kK k1, z0.symm⟩, q⟩, fun a xs y1 y2 => ?_, fun a xs y1 y2 => ?_, fun a xs y1 y2 => ?_, fun a xs key y1 y2 y3 => ?_⟩
    · cases y1; rw [h2] at y2; cases y2
    · cases y1; rw [h2] at y2; cases y2; exact z1
    · cases y1; rw [h2] at y2; cases y2
    · cases y1; rw [h2] at y2; cases y2; rw [k1] at y3; cases y3; exact z0
  | vt h1 h2 h3 r =>
    simp only [T.pos?, Option.bind_eq_some_iff] at e
    obtain ⟨k, k1, e1⟩ := e
    obtain ⟨c, rfl, hc⟩ := kM_rep hk s.1 k1
    obtain ⟨w, g, z1, z0, z2, z3⟩ := aux h3 r e1 eu
    refine ⟨w, ⟨g, z2, fun a m => kb a (.tail _ (z3 a m))⟩, fun Q q => .inr ⟨_, w, rfl, .inr ⟨_, k, c, .inl h2, rfl, hc, z0.symm⟩, q⟩, fun a xs y1 y2 => ?_, fun a xs y1 y2 => ?_, fun a xs y1 y2 => ?_, fun a xs key y1 y2 y3 => ?_⟩
    · cases y1; rw [h2] at y2; cases y2
    · cases y1; rw [h2] at y2; cases y2
    · cases y1; rw [h2] at y2; cases y2; exact z1
    · cases y1; rw [h2] at y2; cases y2
/-- the child that was read is the child that is changed -/
theorem RepT.child_at {p : Nat} (h : RepT K b F H v t f) (nf : f.Nodup) (eu : t.ch[p]? = some u)
    (k1 : ∀ (a : Addr) (xs : List V), v = .ref a → H a = some (.lst xs) → xs[p]? = some w) (k2 : ∀ (a : Addr) (kvs : List (Key × V)), v = .ref a → H a = some (.dK kvs) → (kvs[p]?).map (·.2) = some w) (k3 : ∀ (a : Addr) (kvs : List (List Key × V)), v = .ref a → H a = some (.dT kvs) → (kvs[p]?).map (·.2) = some w) :
    ∃ g, RepT K b F H w u g ∧ g.Nodup ∧ (∀ a ∈ g, a ∈ f) ∧
    ∀ (H' : Hp) (u' : T) (g' : List Addr), (∀ a o, a ∉ g → H a = some o → H' a = some o) → RepT K b F H' w u' g' → g'.Nodup → (∀ a ∈ g', a ∈ g ∨ H a = none) → ∃ f', RepT K b F H' v (t.setCh p u') f' ∧ f'.Nodup ∧ ∀ a ∈ f', a ∈ f ∨ H a = none := by
  obtain ⟨w', g, r, n, s, j1, j2, j3, m⟩ := h.child nf eu
  have e : w' = w := by
    cases h with
    | st _ => simp [T.ch] at eu
    | vl z1 z2 _ =>
      have x := j1 _ _ rfl z2
      have y := k1 _ _ rfl z2
      rw [x] at y; cases y; rfl
    | vk z1 z2 _ _ =>
      have x := j2 _ _ rfl z2
      have y := k2 _ _ rfl z2
      rw [x] at y; cases y; rfl
    | vt z1 z2 _ _ =>
      have x := j3 _ _ rfl z2
      have y := k3 _ _ rfl z2
      rw [x] at y; cases y; rfl
  subst e
  exact ⟨g, r, n, s, m⟩
theorem Stp.obj (S : Stp K b F H F' H') (g : Got K b F H (.ref a) t) (n : ∀ d, t ≠ .st d) (e : H' a = some o) : H a = some o := by
  obtain ⟨f, r, k⟩ := g
  have : ∃ u, H a = some u ∧ b ≠ some a := by
    cases r with
    | st _ => exact absurd rfl (n _)
    | vl _ h _ => exact ⟨_, h, k a (.head _)⟩
    | vk _ h _ _ => exact ⟨_, h, k a (.head _)⟩
    | vt _ h _ _ => exact ⟨_, h, k a (.head _)⟩
  obtain ⟨u, hu, nb⟩ := this
  have := S.hh a u hu nb
  rw [this] at e
  rw [hu, e]
def sApp2 (i : Nat) (wk we : EW) : SW := fun E env => ∃ t, env[i]? = some (some t) ∧ wk env fun k => ∃ kd p ts, k = .st kd ∧ t.pos? kd = some p ∧ t.ch[p]? = some (.vl ts) ∧ ts.length ≤ 100000 ∧
  we env fun u => ∃ d, u = .st d ∧ E.nx (env.set i (some (t.setCh p (.vl (ts ++ [.st d])))))
theorem ch_not {p : Nat} (h : t.ch[p]? = some u) : ∀ d, t ≠ .st d := fun d e => by subst e; simp [T.ch] at h
theorem so_app2 {i : Nat} (hk : SoE K tk wk) (he : SoE K te we) : SoS K (tDrop (tBM K "list" rAppend (tOp (rGetA K) (tVar i) tk) (tCons te tNil))) (sApp2 i wk we) := fun b F0 H0 F H σ env O E ⟨t, et, h⟩ D q => by
  obtain ⟨v, f, h3, h4, h5⟩ := O.get et
  refine ⟨v, h3, hk _ _ _ _ _ _ _ O _ h _ fun k tk F1 H1 S1 g1 ⟨kd, p, ts, e1, e2, e3, hl, h1⟩ => ?_⟩
  subst e1
  have O1 := O.step S1
  have gv1 : Got K b F1 H1 v t := Got.step ⟨f, h4, h5⟩ S1
  obtain ⟨w, gw, rd, k1, k2, k3, _⟩ := gv1.pos O1.fit g1.inv_st e2 e3
  refine rd _ ⟨?_, he _ _ _ _ _ _ _ O1 _ h1 _ fun y ty F2 H2 S2 g2 ⟨d, e4, h2⟩ => ?_⟩
  · obtain ⟨fw, rw', _⟩ := gw
    cases rw' with
    | vl z0 z1 z2 => exact .inl ⟨rfl, _, SqL.of z1⟩
  · subst e4
    have O2 := O1.step S2
    obtain ⟨v', f', e5, r2, nf, kf, mk⟩ := O2.mut et
    have := opt_some h3 e5
    subst this
    have nst := ch_not e3
    obtain ⟨g, rg, ng, sg, up⟩ := r2.child_at nf e3 (fun a xs z1 z2 => k1 a xs z1 (by subst z1; exact S2.obj gv1 nst z2)) (fun a xs z1 z2 => k2 a xs z1 (by subst z1; exact S2.obj gv1 nst z2)) (fun a xs z1 z2 => k3 a xs z1 (by subst z1; exact S2.obj gv1 nst z2))
    obtain ⟨l, xs, rfl, hx, lx, ml, r3⟩ := rg.app ng g2.inv_st
    obtain ⟨f'', r4, nf'', sf⟩ := up _ _ g (fun a o m z => upd_keep m ml z) r3 ng fun a m => .inl m
    exact ⟨l, xs, y, rfl, rfl, hx, by rw [lx]; exact Nat.lt_of_le_of_lt hl (by decide), q.nx F2 _ _ _ (S1.ff.trans S2.ff) (mk _ _ f'' (fun a o m z => upd_keep m (sg l ml) z) (fun a m => upd_there (r2.known a m).2) r4 nf'' sf) h2⟩
def sSet2 (i : Nat) (wk wj we : EW) : SW := fun E env => we env fun u => ∃ t, env[i]? = some (some t) ∧ wk env fun k => ∃ kd p c, k = .st kd ∧ t.pos? kd = some p ∧ t.ch[p]? = some c ∧
  wj env fun j => ∃ d jd c', u = .st d ∧ j = .st jd ∧ c.sz ≤ 100000 ∧ c.put? jd d = some c' ∧ E.nx (env.set i (some (t.setCh p c')))
theorem so_set2 {i : Nat} (hk : SoE K tk wk) (hj : SoE K tj wj) (he : SoE K te we) : SoS K (tAsg te (gSub (tOp (rGetA K) (tVar i) tk) tj rSetA)) (sSet2 i wk wj we) := fun b F0 H0 F H σ env O E h D q =>
  he _ _ _ _ _ _ _ O _ h _ fun y ty F1 H1 S1 g1 ⟨t, et, h1⟩ => by
    have O1 := O.step S1
    obtain ⟨v, f, h3, h4, h5⟩ := O1.get et
    refine ⟨v, h3, hk _ _ _ _ _ _ _ O1 _ h1 _ fun k tk F2 H2 S2 g2 ⟨kd, p, c, e1, e2, e3, h2⟩ => ?_⟩
    subst e1
    have O2 := O1.step S2
    have gv1 : Got K b F2 H2 v t := Got.step ⟨f, h4, h5⟩ S2
    obtain ⟨w, gw, rd, k1, k2, k3, _⟩ := gv1.pos O2.fit g2.inv_st e2 e3
    refine rd _ (hj _ _ _ _ _ _ _ O2 _ h2 _ fun j tj F3 H3 S3 g3 ⟨d, jd, c', e4, e5, sz, e6, h6⟩ => ?_)
    subst e4 e5
    have O3 := O2.step S3
    obtain ⟨v', f', e7, r2, nf, kf, mk⟩ := O3.mut et
    have := opt_some h3 e7
    subst this
    have nst := ch_not e3
    obtain ⟨g, rg, ng, sg, up⟩ := r2.child_at nf e3 (fun a xs z1 z2 => k1 a xs z1 (by subst z1; exact S3.obj gv1 nst z2)) (fun a xs z1 z2 => k2 a xs z1 (by subst z1; exact S3.obj gv1 nst z2)) (fun a xs z1 z2 => k3 a xs z1 (by subst z1; exact S3.obj gv1 nst z2))
    obtain ⟨l, o, g', rfl, ml, r3, sl, rs⟩ := rg.put ng ((g1.step S2).step S3).inv_st g3.inv_st O3.same sz e6
    obtain ⟨f'', r4, nf'', sf⟩ := up _ _ g' (fun a o m z => upd_keep m ml z) r3 (ng.sublist sl) fun a m => .inl (sl.subset m)
    exact rs _ (q.nx F3 _ _ _ (S1.ff.trans (S2.ff.trans S3.ff)) (mk _ _ f'' (fun a o m z => upd_keep m (sg l ml) z) (fun a m => upd_there (r2.known a m).2) r4 nf'' sf) h6)
/-! ### d[k] += e -/
def sDAug (i : Nat) (op : Int → Int → Int) (wk we : EW) : SW := fun E env => ∃ t, env[i]? = some (some t) ∧ wk env fun k => ∃ kd n, k = .st kd ∧ t.isD = true ∧ t.get? kd = some (some (.st (.int n))) ∧
  we env fun u => ∃ m t', u = .st (.int m) ∧ t.sz ≤ 100000 ∧ t.put? kd (.int (op n m)) = some t' ∧ E.nx (env.set i (some t'))
theorem so_daug {i : Nat} {op : Int → Int → Int} {rd : V → V → Hp → VK → Prop} (hrd : ∀ x y H Q, (∃ i j, x = .int i ∧ y = .int j ∧ Q (.int (op i j)) H) → rd x y H Q) (hk : SoE K tk wk) (he : SoE K te we) : SoS K (L2.sDAug (tVar i) tk te rd) (sDAug i op wk we) := fun b F0 H0 F H σ env O E ⟨t, et, h⟩ D q => by
  obtain ⟨v, f, h3, h4, h5⟩ := O.get et
  refine ⟨v, h3, hk _ _ _ _ _ _ _ O _ h _ fun k tk F1 H1 S1 g1 ⟨kd, n, e1, ed, e2, h1⟩ => ?_⟩
  subst e1
  have O1 := O.step S1
  have gv1 : Got K b F1 H1 v t := Got.step ⟨f, h4, h5⟩ S1
  obtain ⟨a, o, rfl, dg, z⟩ := gv1.dget O1.same g1.inv_st e2
  rcases z with ⟨z, _⟩ | ⟨u', w, z1, rfl, gw⟩
  · cases z
  cases z1
  have := gw.int
  subst this
  refine ⟨a, _, rfl, dg, he _ _ _ _ _ _ _ O1 _ h1 _ fun y ty F2 H2 S2 g2 ⟨m, t', e4, sz, e5, h2⟩ => hrd _ _ _ _ ⟨n, m, rfl, by subst e4; exact g2.int, ?_⟩⟩
  have O2 := O1.step S2
  obtain ⟨v', f', e7, r2, nf, kf, mk⟩ := O2.mut et
  have := opt_some h3 e7
  subst this
  obtain ⟨l, o, f'', e8, ml, r3, sl, rs⟩ := r2.put (y := .int (op n m)) nf (.int _) (g1.step S2).inv_st O2.same sz e5
  cases e8
  have goal := q.nx F2 _ _ _ (S1.ff.trans S2.ff) (mk _ _ f'' (fun a o m z => upd_keep m ml z) (fun a m => upd_there (r2.known a m).2) r3 (nf.sublist sl) fun a m => .inl (sl.subset m)) h2
  rcases rs (fun H' => D.nx σ H') goal with ⟨p, xs, k', j, e9, e10, hp, _⟩ | ⟨a', H', e9, dp, hq⟩
  · exfalso
    cases e9
    cases r2 with
    | st _ => simp [T.put?] at e5
    | vl _ _ _ => simp [T.isD] at ed
    | vk _ h2 _ _ => rw [h2] at hp; cases hp
    | vt _ h2 _ _ => rw [h2] at hp; cases hp
  · cases e9
    exact ⟨H', dp, hq⟩
/-! ### x.append(y.pop(e)) -/
theorem RepTs.plain : ∀ {ds : List D} {vs : List V} {f : List Addr}, RepTs K b F H vs (ds.map .st) f → Reps K b F vs ds ∧ f = []
  | [], _, _, h => by cases h; exact ⟨.nil, rfl⟩
  | d :: ds, _, _, h => by
    have h2 : RepTs K b F H _ (.st d :: ds.map .st) _ := h
    clear h
    cases h2 with
    | cons hd r =>
      cases hd with
      | st hd =>
        obtain ⟨r', e⟩ := RepTs.plain r
        exact ⟨.cons hd r', by rw [e]; rfl⟩
theorem Reps.erase : ∀ {vs : List V} {ds : List D} (k : Nat), Reps K b F vs ds → Reps K b F (vs.eraseIdx k) (ds.eraseIdx k)
  | _, _, _, .nil => by simp; exact .nil
  | _, _, 0, .cons h r => by simpa using r
  | _, _, k + 1, .cons h r => by simp; exact .cons h (Reps.erase k r)
def sAppPop (i j : Nat) (we : EW) : SW := fun E env => ∃ (ts : List T) (ds : List D), env[i]? = some (some (.vl ts)) ∧ env[j]? = some (some (.vl (ds.map .st))) ∧ ts.length ≤ 100000 ∧ ds.length ≤ 100000 ∧ we env fun u => ∃ (n : Int) (d : D), u = .st (.int n) ∧ 0 ≤ n ∧ ds[n.toNat]? = some d ∧
  E.nx ((env.set j (some (.vl ((ds.eraseIdx n.toNat).map .st)))).set i (some (.vl (ts ++ [.st d]))))
theorem so_appPop {i j : Nat} (hij : i ≠ j) (he : SoE K te we) : SoS K (tDrop (tBM K "list" rAppend (tVar i) (tCons (tBM K "list" rPopAt (tVar j) (tCons te tNil)) tNil))) (sAppPop i j we) := fun b F0 H0 F H σ env O E ⟨ts, ds, e, ej, hl, hl2, h⟩ D q => by
  obtain ⟨v, f, h3, h4, h5⟩ := O.get e
  obtain ⟨v2, f2, h32, h42, h52⟩ := O.get ej
  refine ⟨v, h3, ?_, v2, h32, ?_, he _ _ _ _ _ _ _ O _ h _ fun y ty F1 H1 S1 g1 ⟨n, d, e1, n0, e2, h2⟩ => ?_⟩
  · cases h4 with
    | vl z0 z1 z2 => exact .inl ⟨rfl, _, SqL.of z1⟩
  · cases h42 with
    | vl z0 z1 z2 => exact .inl ⟨rfl, _, SqL.of z1⟩
  · subst e1
    have O1 := O.step S1
    obtain ⟨v', f', e3, r2, nf, kf, mk⟩ := O1.mut ej
    have := opt_some h32 e3
    subst this
    cases r2 with
    | @vl l2 xs _ fr z0 z1 z2 =>
      obtain ⟨rp, rfl⟩ := z2.plain
      obtain ⟨w, w1, w2⟩ := rp.get e2
      have lx := rp.length
      have hn : n.toNat < xs.length := (List.getElem?_eq_some_iff.mp w1).1
      have sq : seqIndex? n xs.length = some n.toNat := (ixN_seq (n := xs.length) (i := n) (j := n.toNat) (by unfold ixN; rw [if_pos n0, if_pos (by omega)])).1
      have re := rp.erase n.toNat
      have O2 := mk (upd H1 l2 (.lst (xs.eraseIdx n.toNat))) (.vl ((ds.eraseIdx n.toNat).map .st)) [l2] (fun a o m z => upd_keep m (.head _) z) (fun a m => upd_there (by rw [List.mem_singleton.mp m]; exact ⟨_, z1⟩)) (.vl z0 upd_same re.repTs) (by simp) fun a m => .inl m
      refine ⟨l2, xs, n, n.toNat, w, rfl, by rw [g1.int], z1, by omega, by omega, sq, w1, ?_⟩
      have ei : (env.set j (some (.vl ((ds.eraseIdx n.toNat).map .st))))[i]? = some (some (.vl ts)) := by rw [List.getElem?_set_ne (Ne.symm hij)]; exact e
      obtain ⟨v', f', e3, r2, nf, kf, mk⟩ := O2.mut ei
      have := opt_some h3 e3
      subst this
      obtain ⟨l, xs', rfl, hx, lx', ml, r3⟩ := r2.app nf w2
      exact ⟨l, xs', w, rfl, rfl, hx, by rw [lx']; exact Nat.lt_of_le_of_lt hl (by decide), q.nx F1 _ _ _ S1.ff (mk _ _ f' (fun a o m z => upd_keep m ml z) (fun a m => upd_there (r2.known a m).2) r3 nf fun a m => .inl m) h2⟩
/-! ### x.setdefault(k, []).append(e) -/
def sSdApp (i : Nat) (wk we : EW) : SW := fun E env => ∃ es, env[i]? = some (some (.vk es)) ∧ es.length ≤ 100000 ∧ wk env fun k => ∃ kd key p ts es1, k = .st kd ∧ kK kd = some key ∧ es1 = (if (look es key).isNone = true then es ++ [(key, T.vl [])] else es) ∧
  posK es1 key = some p ∧ (es1.map (·.2))[p]? = some (.vl ts) ∧ ts.length ≤ 100000 ∧ we (env.set i (some (.vk es1))) fun u => ∃ d, u = .st d ∧ E.nx (env.set i (some (.vk (setV es1 p (.vl (ts ++ [.st d]))))))
theorem so_sdApp {i : Nat} (hk : SoE K tk wk) (he : SoE K te we) : SoS K (tDrop (tBM K "list" rAppend (tDSetd (tVar i) tk (tLst tNil)) (tCons te tNil))) (sSdApp i wk we) := fun b F0 H0 F H σ env O E ⟨es, et, hl, h⟩ D q => by
  obtain ⟨v, f, h3, h4, h5⟩ := O.get et
  have gv : Got K b F H v (.vk es) := ⟨f, h4, h5⟩
  obtain ⟨a, rfl, ia⟩ := gv.isD O.same rfl
  refine ⟨_, h3, a, rfl, ia, hk _ _ _ _ _ _ _ O _ h _ fun k tk F1 H1 S1 g1 ⟨kd, key, p, ts, es1, e1, e2, e3, e4, e5, hts, h1⟩ => ?_⟩
  subst e1
  have O1 := O.step S1
  refine ⟨Nat.zero_le _, fun pn hp => ?_⟩
  -- the new empty list
  have npb : b ≠ some pn := fun e => by
    obtain ⟨_, _, _, _, z, _⟩ := O1.bx pn e
    rw [hp] at z; cases z
  obtain ⟨v', f', e7, r2, nf, kf, mk⟩ := O1.mut et
  have := opt_some h3 e7
  subst this
  have nep : ∀ c ∈ f', c ≠ pn := fun c m e => by
    obtain ⟨o, eo⟩ := (r2.known c m).2
    rw [e, hp] at eo; cases eo
  have kp : ∀ c o, H1 c = some o → (upd H1 pn (.lst [])) c = some o := fun c o z => by rw [upd_ne (ne_of_none z hp)]; exact z
  have fin : ∀ (H3 : Hp) (w : V), Ok K b F0 H0 F1 H3 σ (env.set i (some (.vk es1))) → Got K b F1 H3 w (.vl ts) → (∀ (kvs : List (Key × V)), H3 a = some (.dK kvs) → (kvs[p]?).map (·.2) = some w) → tyV K "list" w H3 ∧ tCons te tNil σ H3 fun xs H4 => rAppend w xs H4 fun _ H5 => D.nx σ H5 := by
    intro H3 w O3 gw kw
    have ei : (env.set i (some (.vk es1)))[i]? = some (some (.vk es1)) := by
      have : i < env.length := (List.getElem?_eq_some_iff.mp et).1
      rw [List.getElem?_set_self this]
    obtain ⟨v0, f0, q1, q2, q3⟩ := O3.get ei
    have := opt_some h3 q1
    subst this
    have ga : Got K b F1 H3 (.ref a) (.vk es1) := ⟨f0, q2, q3⟩
    refine ⟨?_, he _ _ _ _ _ _ _ O3 _ h1 _ fun y ty F4 H4 S4 g4 ⟨d, e8, h2⟩ => ?_⟩
    · obtain ⟨fw, rw', _⟩ := gw
      cases rw' with
      | vl z0 z1 z2 => exact .inl ⟨rfl, _, SqL.of z1⟩
    · subst e8
      have O4 := O3.step S4
      obtain ⟨v', f', e9, r4, nf4, kf4, mk4⟩ := O4.mut ei
      have := opt_some h3 e9
      subst this
      obtain ⟨g, rg, ng, sg, up⟩ := r4.child_at (p := p) (w := w) nf4 e5 (fun a' xs z1 z2 => by
          cases z1
          cases r4 with | vk _ z3 _ _ => rw [z3] at z2; cases z2) (fun a' xs z1 z2 => by cases z1; exact kw xs (S4.obj ga (by intro d z; cases z) z2)) (fun a' xs z1 z2 => by
          cases z1
          cases r4 with | vk _ z3 _ _ => rw [z3] at z2; cases z2)
      obtain ⟨l, xs, rfl, hx, lx, ml, r3⟩ := rg.app ng g4.inv_st
      obtain ⟨f'', r5, nf'', sf⟩ := up _ _ g (fun a o m z => upd_keep m ml z) r3 ng fun a m => .inl m
      have O5 := mk4 _ _ f'' (fun a o m z => upd_keep m (sg l ml) z) (fun a m => upd_there (r4.known a m).2) r5 nf'' sf
      rw [List.set_set] at O5
      exact ⟨l, xs, y, rfl, rfl, hx, by rw [lx]; exact Nat.lt_of_le_of_lt hts (by decide), q.nx F4 _ _ _ (S1.ff.trans S4.ff) O5 h2⟩
  cases r2 with
  | @vk _ kvs _ fr z0 z1 z2 z3 =>
    have ll := congrArg List.length z2
    rw [List.length_map, List.length_map] at ll
    have z1' : (upd H1 pn (.lst [])) a = some (.dK kvs) := kp _ _ z1
    refine ⟨kvs, key, z1', g1.inv_st.kK e2, by rw [ll]; exact Nat.lt_of_le_of_lt hl (by decide), fun w hw => ?_, fun hw => ?_⟩
    · -- there
      rcases look_repT key z2 z3 with ⟨y1, y2⟩ | ⟨t', v', g, y1, y2, y3, y4⟩
      · rw [y2] at hw; cases hw
      · rw [y1] at e3
        simp only [Option.isNone_some, Bool.false_eq_true, if_false] at e3
        subst e3
        have z3' : RepTs K b F1 (upd H1 pn (.lst [])) (kvs.map (·.2)) (es1.map (·.2)) fr := z3.keep (fun _ _ z => z) fun c m => ⟨rfl, upd_ne (nep c (.tail _ m))⟩
        have rt : RepT K b F1 (upd H1 pn (.lst [])) (.ref a) (.vk es1) (a :: fr) := .vk z0 z1' z2 z3'
        have O3 := mk (upd H1 pn (.lst [])) (.vk es1) (a :: fr) (fun c o _ z => kp c o z) (fun c m => (rt.known c m).2) rt nf fun c m => .inl m
        have gk : Got K b F1 (upd H1 pn (.lst [])) (.ref a) (.vk es1) := ⟨_, rt, fun c m => (kf c m).2⟩
        have gkey : Rep K b F1 (kV key) kd := by rw [← g1.inv_st.kK e2]; exact g1.inv_st
        obtain ⟨w', gw, _, _, k2, _, k4⟩ := gk.pos (p := p) O3.fit gkey (by simp [T.pos?, e2, e4]) e5
        have ew : w' = w := by
          have := k4 a kvs key rfl z1' e2
          rw [this] at hw; exact Option.some.inj hw
        subst ew
        exact fin _ _ O3 gw fun kvs' z => k2 a kvs' rfl z
    · -- not there
      rcases look_repT key z2 z3 with ⟨y1, y2⟩ | ⟨t', v', g, y1, y2, y3, y4⟩
      · rw [y1] at e3
        simp only [Option.isNone_none, if_true] at e3
        subst e3
        have nal : a ≠ pn := nep a (.head _)
        have ep : p = es.length := by
          unfold posK at e4
          rw [List.findIdx?_append] at e4
          have : es.findIdx? (fun q => decide (q.1 = key)) = none := by
            rw [List.findIdx?_eq_none_iff]
            intro x hx
            unfold look at y1
            rw [Option.map_eq_none_iff, List.find?_eq_none] at y1
            simpa using y1 x hx
          rw [this] at e4
          simp at e4
          exact e4.symm
        subst ep
        have ets : ts = [] := by simpa using e5.symm
        subst ets
        have ek : putK kvs key (.ref pn) = kvs ++ [(key, .ref pn)] := putK_new _ y2
        rw [ek]
        have m1 : ∀ c, c ≠ a → c ≠ pn → upd (upd H1 pn (.lst [])) a (.dK (kvs ++ [(key, .ref pn)])) c = H1 c := fun c n1 n2 => by rw [upd_ne n1, upd_ne n2]
        have epn : upd (upd H1 pn (.lst [])) a (.dK (kvs ++ [(key, .ref pn)])) pn = some (.lst []) := by rw [upd_ne nal.symm, upd_same]
        have na : a ∉ fr := (List.nodup_cons.mp nf).1
        have rnew : RepT K b F1 (upd (upd H1 pn (.lst [])) a (.dK (kvs ++ [(key, .ref pn)]))) (.ref pn) (.vl []) [pn] := .vl (O1.same.free hp) epn .nil
        have rall := (z3.keep (F' := F1) (H' := upd (upd H1 pn (.lst [])) a (.dK (kvs ++ [(key, .ref pn)]))) (fun _ _ z => z) fun c m => ⟨rfl, m1 c (fun e => na (e ▸ m)) (nep c (.tail _ m))⟩).append (.cons rnew .nil)
        have rt : RepT K b F1 (upd (upd H1 pn (.lst [])) a (.dK (kvs ++ [(key, .ref pn)]))) (.ref a) (.vk (es ++ [(key, .vl [])])) (a :: (fr ++ ([pn] ++ []))) := .vk z0 upd_same (by simp [z2]) (by simpa using rall)
        have nd : (a :: (fr ++ ([pn] ++ []))).Nodup := by
          refine List.nodup_cons.mpr ⟨fun m => ?_, List.nodup_append.mpr ⟨(List.nodup_cons.mp nf).2, by simp, fun c m c' m' e => ?_⟩⟩
          · rcases List.mem_append.mp m with m | m
            · exact na m
            · exact nal (by simpa using m)
          · have : c' = pn := by simpa using m'
            exact nep c (.tail _ m) (e.trans this)
        have O3 := mk _ _ _ (fun c o m z => by rw [m1 c (fun e => m (by rw [e]; exact .head _)) (ne_of_none z hp)]; exact z) (fun c m => by
            rcases List.mem_cons.mp m with rfl | m
            · exact ⟨_, upd_same⟩
            · obtain ⟨o, eo⟩ := (RepTs.known z3 c m).2
              exact ⟨o, by rw [m1 c (fun e => na (e ▸ m)) (nep c (.tail _ m))]; exact eo⟩) rt nd fun c m => by
            rcases List.mem_cons.mp m with rfl | m
            · exact .inl (.head _)
            · rcases List.mem_append.mp m with m | m
              · exact .inl (.tail _ m)
              · have : c = pn := by simpa using m
                rw [this]; exact .inr hp
        refine fin _ _ O3 ⟨_, rnew, fun c m => by rw [List.mem_singleton.mp m]; exact npb⟩ fun kvs' z => ?_
        rw [upd_same] at z
        cases z
        rw [← ll]; simp
      · rw [y2] at hw; cases hw
end
end Pw
namespace Pw
open PySem PySem.Spec PyProof.Rows L2

/-! ### a name = {..} on one line -/
section
variable {X : Cx}
theorem ps_setDc {i : Nat} {y : Str} {py : Pos} {kx vx tg iter : Expr} {ifs : List Expr} {scope : Scope} {own : List (Str × Nat)} {pos spos : Pos} {wi : TI} {g : TG} {tt : TT} {tk tv : TE} (hc : X.calm = true) (hN : X.N.Nodup) (hy : X.N[i]? = some y) (hyl : X.env.scope.names.lookup y = some .local)
    (hsw : swapsWith (.DictComp kx vx [⟨tg, iter, ifs, 0⟩] scope pos) (some (.Name y py)) spos.line X.env = pure true) (hi : PI X tg iter wi) (ok : BlkOk X.N X.env.scope scope own)
    (hg : ∀ (s : Shared) (H : Hp) (C : Addr) (cl : List (Str × Addr)) (fp : List Addr), PG (X.blk s H scope (compEnvC scope cl C X.env) fp) tg g) (ht : ∀ (s : Shared) (H : Hp) (C : Addr) (cl : List (Str × Addr)) (fp : List Addr), PTs (X.blk s H scope (compEnvC scope cl C X.env) fp) ifs tt)
    (hk : ∀ (s : Shared) (H : Hp) (C : Addr) (cl : List (Str × Addr)) (fp : List Addr), PE (X.blk s H scope (compEnvC scope cl C X.env) fp) kx tk)
    (he : ∀ (s : Shared) (H : Hp) (C : Addr) (cl : List (Str × Addr)) (fp : List Addr), PE (X.blk s H scope (compEnvC scope cl C X.env) fp) vx tv) (hs : ∀ x, foldedSetIterable iter X.env x = pure x := by intro _; rfl) :
    PS X (.Assign [.Name y py] (.DictComp kx vx [⟨tg, iter, ifs, 0⟩] scope pos) spos) (tAsg (tDc wi g tt tk tv (own.map (·.2))) (gName i)) := by
  refine ⟨fun pins s σ H D I h => ?_⟩
  rw [exec_Assign_Name_used _ _ _ _ hsw]
  refine wpAny_bind (wpAny_standAt (wpAny_bind ?_))
  show wpAny _ X.A (do let _ ← comprehension (.DictComp kx vx [⟨tg, iter, ifs, 0⟩] scope pos) scope X.env (firstIterPos [⟨tg, iter, ifs, 0⟩] pos) newDict false (eval iter X.env) (some (assign (.Name y py) X.env))) _ _ s
  have h : tDc wi g tt tk tv (own.map (·.2)) σ H (fun x H1 => gName i x σ H1 D.nx) := h
  refine wpAny_bind (thn (dc_core (Qf := fun _ s' => SP X pins D .next s') hc hN I hi ok hg ht hk he hs h fun L C s' m H' I' q hn f => ?_) fun _ s' hq => wpAny_pure (wpAny_pure hq))
  show wpAny _ _ (assign (.Name y py) X.env (.ref L)) _ _ _
  refine wpAny_assign_Name (store_ok2 (v := V.ref L) I' hN hy (.inl hyl) rfl (fun s2 I2 ⟨a, sb, ha⟩ => ?_) (.inr hyl))
  obtain ⟨f0, f1, f2, f3, f4, f5⟩ := f
  have haC : C ≠ a := by
    rcases ha with z | z
    · rw [z]; exact f1
    · exact fun e => f4 y a z e.symm
  refine ⟨m, hn.sameBut sb haC, fun h3 sb3 => ?_⟩
  exact ⟨_, H', I2.turned (t' := s2.toks) (fun b o hb e => (sb3.2 b hb).trans e) f0 f1 f3 f4 f5, q⟩
theorem sw_trueD {kx vx : Expr} {gs : List Comprehension} {scope : Scope} {pos py : Pos} {y : Str} {l : Nat} {env : L2.Cx} (hk : env.env.scope.kind = .function) (hy : env.env.scope.names.lookup y = some .local) (hl : (py.line == pos.line) = true)
    (ha : (scope.names.any fun (n, k) => n == y && (k == .local || k == .cell)) = false) : swapsWith (.DictComp kx vx gs scope pos) (some (.Name y py)) l env.env = pure true := by
  have ky : env.env.kindOf y = some .local := hy
  have hb : env.env.blockKind = .function := by unfold Env.blockKind; rw [hk]; rfl
  unfold swapsWith
  simp only [hb, ky, ha, Expr.pos, hl]
  rfl
end

section
variable {K : PySem.W.Frag} {b : Option Addr} {F H F' H' F'' H'' F0 H0 : Hp} {v : V} {vs : List V} {d : D} {ds : List D} {t : T} {ts : List T} {f g fp : List Addr} {σ : L2.St} {env : Env} {a p : Addr} {o : HO}
variable {ta tb te tc td ty tx tk tv : TE} {wa wb we wc wd wk wx : EW} {tt tu : TT} {wt wu : TW} {r : R2} {fr : T → T → (T → Prop) → Prop} {tr : TA} {wr : AW} {wi : TI} {wI : IW}
/-! ### dicts by comprehension -/
def putW (es : List (Key × T)) (k : Key) (t : T) (Q : List (Key × T) → Prop) : Prop := (look es k = none ∧ Q (es ++ [(k, t)])) ∨ ∃ d, t = .st d ∧ Q (putL es k (.st d))
def compD (f : D → (Option (Key × T) → Prop) → Prop) : List D → List (Key × T) → (List (Key × T) → Prop) → Prop
  | [], es, Q => Q es
  | d :: ds, es, Q => f d fun r => match r with | none => compD f ds es Q | some p => putW es p.1 p.2 fun es' => compD f ds es' Q
def wDc (wi : IW) (tg : Tgt) (wt : TW) (wk we : EW) (vs : List Nat) : EW := fun env Q => wi env fun ds => ds.length ≤ 100000 ∧
  compD (fun d R => ∃ env', setT tg d (wipeE env vs) = some env' ∧ wt env' fun c => if c = true then wk env' fun k => we env' fun t => ∃ kd key, k = .st kd ∧ kK kd = some key ∧ R (some (key, t)) else R none) ds [] fun es => Q (.vk es)
theorem look_none_val {κ : Type} [DecidableEq κ] {kvs : List (κ × V)} {es : List (κ × T)} {f : List Addr} {k : κ} (e : kvs.map (·.1) = es.map (·.1)) (r : RepTs K b F H (kvs.map (·.2)) (es.map (·.2)) f) (h : look es k = none) : valV kvs k = none := by
  rcases look_repT k e r with ⟨_, h2⟩ | ⟨t, v, g, h1, _⟩
  · exact h2
  · rw [h] at h1; cases h1
theorem so_dc {g : TG} {tg : Tgt} {vs : List Nat} (hi : SoI K wi wI) (hg : SoG K g tg) (hv : ∀ i ∈ tg.slots, i ∈ vs) (ht : SoT K tt wt) (hk : SoE K tk wk) (he : SoN K te we) : SoN K (tDc wi g tt tk te vs) (wDc wI tg wt wk we vs) := fun b F0 H0 F H σ env O Q' h1 Q q =>
  hi _ _ _ _ _ _ _ O _ h1 _ fun J ds F1 H1 S1 Y ⟨hl, h2⟩ => by
    intro Dp hD
    have O1 := O.step S1
    have hDf : F1 Dp = none := O1.same.free hD
    refine ⟨fun i m H' => ∃ F' kvs es f, Stp K b F1 H1 F' H' ∧ H' Dp = some (.dK kvs) ∧ F' Dp = none ∧ kvs.map (·.1) = es.map (·.1) ∧ RepTs K b F' H' (kvs.map (·.2)) (es.map (·.2)) f ∧ f.Nodup ∧ (∀ a ∈ f, H1 a = none ∧ a ≠ Dp) ∧ kvs.length ≤ i ∧ i ≤ ds.length ∧ m = ds.length - i ∧
      compD (fun d R => ∃ env', setT tg d (wipeE env vs) = some env' ∧ wt env' fun c => if c = true then wk env' fun k => we env' fun t => ∃ kd key, k = .st kd ∧ kK kd = some key ∧ R (some (key, t)) else R none) (ds.drop i) es (fun es' => Q' (.vk es')),
      ⟨ds.length, F1, [], [], [], .skip O1.fit hD, upd_same, hDf, rfl, .nil, List.nodup_nil, (fun a m => by cases m), Nat.le_refl _, Nat.zero_le _, (by simp), (by simpa using h2)⟩, ?_⟩
    rintro i m H' ⟨F', kvs, es, f, S, eD, nD, ek, rts, nf, kf, la, li, em, hc⟩
    have O' := O1.step S
    by_cases hlt : i < ds.length
    · obtain ⟨d, ed, ed'⟩ := drop_get hlt
      rw [ed'] at hc
      obtain ⟨env', es0, ht'⟩ := hc
      obtain ⟨go, yl⟩ := Y.1 i d ed F' H' S.ff O'.fit
      refine .inr ⟨go, fun H'' => ∃ F' kvs es f, Stp K b F1 H1 F' H'' ∧ H'' Dp = some (.dK kvs) ∧ F' Dp = none ∧ kvs.map (·.1) = es.map (·.1) ∧ RepTs K b F' H'' (kvs.map (·.2)) (es.map (·.2)) f ∧ f.Nodup ∧ (∀ a ∈ f, H1 a = none ∧ a ≠ Dp) ∧ kvs.length ≤ i + 1 ∧ i + 1 ≤ ds.length ∧ 
        compD (fun d R => ∃ env', setT tg d (wipeE env vs) = some env' ∧ wt env' fun c => if c = true then wk env' fun k => we env' fun t => ∃ kd key, k = .st kd ∧ kK kd = some key ∧ R (some (key, t)) else R none) (ds.drop (i + 1)) es (fun es' => Q' (.vk es')),
        fun H'' ⟨F', kvs, es, f, z1, z2, z3, z3', z4, z5, z6, z7, z8, z9⟩ => ⟨ds.length - (i + 1), by omega, F', kvs, es, f, z1, z2, z3, z3', z4, z5, z6, z7, z8, rfl, z9⟩, fun x H2 y => ?_⟩
      obtain ⟨F2, S2, r2⟩ := yl x H2 y
      have O2 := (O'.step S2).wipe vs
      refine hg _ _ _ _ _ _ _ _ _ _ O2 r2 es0 _ fun σ2 O3 w2 => ⟨by rw [w2 vs hv, wipe_wipe], ?_⟩
      refine ht _ _ _ _ _ _ _ O3 _ ht' _ fun c F4 H4 S4 h4 => ?_
      have SA := (S.trans S2).trans S4
      have bD : ∀ a, b = some a → a ≠ Dp := fun a e z => by
        subst z
        obtain ⟨_, _, _, _, z, _⟩ := O1.bx a e
        rw [hD] at z; cases z
      have nbD : b ≠ some Dp := fun e => bD Dp e rfl
      have S24 := S2.trans S4
      have e4 : H4 Dp = some (.dK kvs) := S24.hh _ _ eD nbD
      have n4 : F4 Dp = none := by rw [S24.fk _ _ eD]; exact nD
      have bf : ∀ a ∈ f, b ≠ some a := fun a m e => by
        obtain ⟨_, _, _, _, z, _⟩ := O1.bx a e
        rw [(kf a m).1] at z; cases z
      cases c with
      | false => exact ⟨F4, kvs, es, f, SA, e4, n4, ek, rts.step S24 bf, nf, kf, by omega, by omega, by simpa using h4⟩
      | true =>
        rw [if_pos rfl] at h4
        rw [if_pos rfl]
        refine hk _ _ _ _ _ _ _ (O3.step S4) _ h4 _ fun yk tyk F5 H5 S5 g5 h5 => ?_
        refine he _ _ _ _ _ _ _ ((O3.step S4).step S5) _ h5 _ fun v t f' F6 H6 S6 r6 n6 new6 ⟨kd, key, e7, e8, h6⟩ => ?_
        subst e7
        have e5 : H5 Dp = some (.dK kvs) := S5.hh _ _ e4 nbD
        have e6 : H6 Dp = some (.dK kvs) := S6.hh _ _ e5 nbD
        have nn6 : F6 Dp = none := by rw [S6.fk _ _ e5, S5.fk _ _ e4]; exact n4
        refine ⟨kvs, key, g5.inv_st.kK e8, e6, Nat.lt_of_le_of_lt (by omega : kvs.length ≤ 100000) (by decide), ?_⟩
        have S26 := (S24.trans S5).trans S6
        have SB := S.trans S26
        have rts6 := rts.step S26 bf
        have Dnf : Dp ∉ f := fun m => (kf Dp m).2 rfl
        have lp := length_putK kvs key v
        rcases h6 with ⟨h6, h7⟩ | ⟨d', rfl, h7⟩
        · have Dnf' : Dp ∉ f' := fun m => by rw [new6 Dp m] at e5; cases e5
          have dis : ∀ a ∈ f, ∀ c ∈ f', a ≠ c := fun a m c m' e => by
            subst e
            obtain ⟨_, o, eo⟩ := (rts.step (S24.trans S5) bf).known a m
            rw [new6 a m'] at eo; cases eo
          rw [putK_new v (look_none_val ek rts6 h6)]
          refine ⟨F6, kvs ++ [(key, v)], es ++ [(key, t)], f ++ f', SB.mutNew hD nn6 O1.fit, upd_same, nn6, by simp [ek], ?_, List.nodup_append.mpr ⟨nf, n6, dis⟩, fun a m => ?_, by simp; omega, by omega, h7⟩
          · have r7 := rts6.append (RepTs.cons r6 .nil)
            rw [List.append_nil] at r7
            have r8 := r7.keep (F' := F6) (H' := upd H6 Dp (.dK (kvs ++ [(key, v)]))) (fun _ _ z => z) fun a m => ⟨rfl, upd_ne (by
              rcases List.mem_append.mp m with m | m
              · exact fun e => Dnf (e ▸ m)
              · exact fun e => Dnf' (e ▸ m))⟩
            simpa using r8
          · rcases List.mem_append.mp m with m | m
            · exact kf a m
            · refine ⟨?_, fun e => Dnf' (e ▸ m)⟩
              cases z : H1 a with
              | none => rfl
              | some o =>
                obtain ⟨o', z'⟩ := (SA.trans S5).dm a o z
                rw [new6 a m] at z'; cases z'
        · cases r6 with
          | st r6 =>
            obtain ⟨f'', r7, s7, e7⟩ := put_rep key r6 ek rts6
            refine ⟨F6, putK kvs key v, putL es key (.st d'), f'', SB.mutNew hD nn6 O1.fit, upd_same, nn6, e7, r7.keep (fun _ _ z => z) (fun a m => ⟨rfl, upd_ne fun e => Dnf (e ▸ s7.subset m)⟩), nf.sublist s7, fun a m => kf a (s7.subset m), by omega, by omega, h7⟩
    · have e : i = ds.length := by omega
      subst e
      rw [List.drop_length] at hc
      have hc : Q' (.vk es) := hc
      have nn : ∀ a, H1 a = none → H a = none := fun a z => by
        cases y : H a with
        | none => rfl
        | some o =>
          obtain ⟨o', y'⟩ := S1.dm a o y
          rw [z] at y'; cases y'
      refine .inl ⟨Y.2 F' H' S.ff O'.fit, q _ _ (Dp :: f) F' H' (S1.trans S) (.vk nD eD ek rts) (List.nodup_cons.mpr ⟨fun m => (kf Dp m).2 rfl, nf⟩) (fun a m => ?_) hc⟩
      rcases List.mem_cons.mp m with rfl | m
      · exact nn _ hD
      · exact nn _ (kf a m).1
/-! ### {k: v, ..} -/
def wPairs : List (EW × EW) → Env → (List (D × D) → Prop) → Prop
  | [], _, Q => Q []
  | (wk, wv) :: r, env, Q => wk env fun k => wv env fun v => ∃ kd vd, k = .st kd ∧ v = .st vd ∧ wPairs r env fun ps => Q ((kd, vd) :: ps)
inductive SoP (K : PySem.W.Frag) : List (TE × TE) → List (EW × EW) → Prop
  | nil : SoP K [] []
  | cons {tk tv : TE} {wk wv : EW} {trs : List (TE × TE)} {ws : List (EW × EW)} : SoE K tk wk → SoE K tv wv → SoP K trs ws → SoP K ((tk, tv) :: trs) ((wk, wv) :: ws)
def mergeT (es : List (Key × D)) : List (Key × T) := es.foldl (fun acc e => putL acc e.1 (.st e.2)) []
def wDisp (ws : List (EW × EW)) : EW := fun env Q => wPairs ws env fun ps => ∃ es : List (Key × D), ps.length = es.length ∧ (∀ (i : Nat) (k x : D), ps[i]? = some (k, x) → ∃ key, es[i]? = some (key, x) ∧ kK k = some key) ∧ es.length ≤ 15 ∧ Q (.vk (mergeT es))
theorem pairs_run : ∀ {trs : List (TE × TE)} {ws : List (EW × EW)}, SoP K trs ws → ∀ {F H : Hp}, Ok K b F0 H0 F H σ env → ∀ {Q' : List (D × D) → Prop}, wPairs ws env Q' → ∀ {Q : List (V × V) → Hp → Prop},
    (∀ vs ps F' H', Stp K b F H F' H' → Reps K b F' (vs.map (·.1)) (ps.map (·.1)) → Reps K b F' (vs.map (·.2)) (ps.map (·.2)) → Q' ps → Q vs H') → tPairs trs σ H Q
  | _, _, .nil, F, H, O, Q', h, Q, q => q [] [] F H (.refl O.same) .nil .nil h
  | _, _, .cons hk hv hr, F, H, O, Q', h, Q, q => hk _ _ _ _ _ _ _ O _ h _ fun x tx F1 H1 S1 g1 h1 => hv _ _ _ _ _ _ _ (O.step S1) _ h1 _ fun y ty F2 H2 S2 g2 ⟨kd, vd, e1, e2, h2⟩ => by
    subst e1 e2
    exact pairs_run hr ((O.step S1).step S2) h2 fun vs ps F3 H3 S3 r1 r2 h3 => q ((x, y) :: vs) ((kd, vd) :: ps) F3 H3 ((S1.trans S2).trans S3) (.cons ((g1.step (S2.trans S3)).inv_st) r1) (.cons (g2.step S3).inv_st r2) h3
theorem merge_rep : ∀ {kvs : List (Key × V)} {es : List (Key × D)} {akv : List (Key × V)} {aes : List (Key × T)} {f : List Addr}, kvs.map (·.1) = es.map (·.1) → Reps K b F (kvs.map (·.2)) (es.map (·.2)) → akv.map (·.1) = aes.map (·.1) → RepTs K b F H (akv.map (·.2)) (aes.map (·.2)) f →
    ∃ f', f'.Sublist f ∧ RepTs K b F H ((mergeK akv kvs).map (·.2)) ((es.foldl (fun acc e => putL acc e.1 (.st e.2)) aes).map (·.2)) f' ∧ (mergeK akv kvs).map (·.1) = (es.foldl (fun acc e => putL acc e.1 (T.st e.2)) aes).map (·.1)
  | [], [], akv, aes, f, _, _, e2, r2 => ⟨f, .refl _, r2, e2⟩
  | [], _ :: _, _, _, _, e, _, _, _ => by simp at e
  | _ :: _, [], _, _, _, e, _, _, _ => by simp at e
  | (k1, v1) :: kvs, (k2, d2) :: es, akv, aes, f, e, r, e2, r2 => by
    simp at e
    obtain ⟨rfl, e⟩ := e
    have r3 : Reps K b F (v1 :: kvs.map (·.2)) (d2 :: es.map (·.2)) := r
    clear r
    cases r3 with
    | cons h r =>
      obtain ⟨f', q1, q2, q3⟩ := put_rep k1 h e2 r2
      obtain ⟨f'', p1, p2, p3⟩ := merge_rep e r q3 q1
      exact ⟨f'', p1.trans q2, p2, p3⟩
theorem so_disp {trs : List (TE × TE)} {ws : List (EW × EW)} (h : SoP K trs ws) : SoN K (tDisp trs) (wDisp ws) := fun b F0 H0 F H σ env O Q' h1 Q q => by
  intro p hp
  have S0 : Stp K b F H F (upd H p (.dK [])) := .skip O.fit hp
  have nb : b ≠ some p := fun e => by
    obtain ⟨_, _, _, _, z, _⟩ := O.bx p e
    rw [hp] at z; cases z
  refine pairs_run h (O.step S0) h1 fun vs ps F1 H1 S1 r1 r2 ⟨es, l1, l2, l3, h2⟩ => ?_
  have e1 : H1 p = some (.dK []) := S1.hh _ _ upd_same nb
  have n1 : F1 p = none := by rw [S1.fk p _ upd_same]; exact O.same.free hp
  have key : ∀ {vs : List (V × V)} {ps : List (D × D)} {es : List (Key × D)}, Reps K b F1 (vs.map (·.1)) (ps.map (·.1)) → Reps K b F1 (vs.map (·.2)) (ps.map (·.2)) → ps.length = es.length → (∀ (i : Nat) (k x : D), ps[i]? = some (k, x) → ∃ key, es[i]? = some (key, x) ∧ kK k = some key) →
      ∃ kvs : List (Key × V), vs = kvs.map (fun kv => (kV kv.1, kv.2)) ∧ kvs.length = es.length ∧ kvs.map (·.1) = es.map (·.1) ∧ Reps K b F1 (kvs.map (·.2)) (es.map (·.2)) := by
    intro vs
    induction vs with
    | nil =>
      intro ps es a1 a2 a3 a4
      cases ps with
      | nil =>
        cases es with
        | nil => exact ⟨[], rfl, rfl, rfl, .nil⟩
        | cons _ _ => simp at a3
      | cons _ _ => cases a1
    | cons x vs ih =>
      intro ps es a1 a2 a3 a4
      cases ps with
      | nil => cases a1
      | cons y ps =>
        cases es with
        | nil => simp at a3
        | cons z es =>
          have a1 : Reps K b F1 (x.1 :: vs.map (·.1)) (y.1 :: ps.map (·.1)) := a1
          have a2 : Reps K b F1 (x.2 :: vs.map (·.2)) (y.2 :: ps.map (·.2)) := a2
          cases a1 with
          | cons b1 b2 =>
            cases a2 with
            | cons c1 c2 =>
              obtain ⟨kvs, q1, q2, q3, q4⟩ := ih b2 c2 (by simpa using a3) fun i k x h => by simpa using a4 (i + 1) k x (by simpa using h)
              obtain ⟨kk, w1, w2⟩ := a4 0 y.1 y.2 rfl
              have w1 : z = (kk, y.2) := by simpa using w1
              subst w1
              exact ⟨(kk, x.2) :: kvs, by simp [← q1, ← b1.kK w2], by simp [q2], by simp [q3], .cons c1 q4⟩
  obtain ⟨kvs, q1, q2, q3, q4⟩ := key r1 r2 l1 l2
  refine ⟨e1, kvs, q1, by omega, ?_⟩
  obtain ⟨f', s', p2, p3⟩ := merge_rep (akv := []) (aes := []) (H := H1) q3 q4 rfl .nil
  have f0 : f' = [] := List.sublist_nil.mp s'
  subst f0
  have SS := (S0.trans S1).mutNew (p := p) (o := .dK (mergeK [] kvs)) hp n1 O.fit
  exact q _ _ [p] F1 _ SS (.vk (es := mergeT es) n1 upd_same p3 (p2.keep (fun _ _ z => z) fun a m => by cases m)) (by simp) (fun a m => by rw [List.mem_singleton.mp m]; exact hp) h2
/-! ### x.extend(e) -/
def sExt (i : Nat) (we : EW) : SW := fun E env => ∃ ts, env[i]? = some (some (.vl ts)) ∧ we env fun u => ∃ ds, u.dl? = some ds ∧ ts.length + ds.length ≤ 100000 ∧ E.nx (env.set i (some (.vl (ts ++ ds.map .st))))
theorem so_ext {i : Nat} (he : SoE K te we) : SoS K (tDrop (tBM K "list" rExtend (tVar i) (tCons te tNil))) (sExt i we) := fun b F0 H0 F H σ env O E ⟨ts, e, h⟩ D q => by
  obtain ⟨v, f, h3, h4, h5⟩ := O.get e
  refine ⟨v, h3, ?_, he _ _ _ _ _ _ _ O _ h _ fun y ty F1 H1 S1 g1 ⟨ds, e1, hl, h2⟩ => ?_⟩
  · cases h4 with
    | vl z0 z1 z2 => exact .inl ⟨rfl, _, SqL.of z1⟩
  · obtain ⟨c, zs, rfl, hz, rz⟩ := g1.dl (O.step S1).same e1
    obtain ⟨v', f', e2, r2, nf, kf, mk⟩ := (O.step S1).mut e
    have := opt_some h3 e2
    subst this
    have known := r2.known
    cases r2 with
    | @vl l xs _ fr z0 z1 z2 =>
      obtain ⟨na, _⟩ := List.nodup_cons.mp nf
      have r3 := z2.append (rz.repTs (H := H1))
      rw [List.append_nil] at r3
      refine ⟨l, c, xs, zs, rfl, rfl, z1, hz, by rw [z2.length, rz.length]; exact Nat.le_trans hl (by decide), q.nx F1 _ _ _ S1.ff (mk _ _ (l :: fr) (fun a o m z => upd_keep m (.head _) z) (fun a m => upd_there (known a m).2) (.vl z0 upd_same (r3.keep (fun _ _ z => z) fun a m => ⟨rfl, upd_ne fun e => na (e ▸ m)⟩)) nf fun a m => .inl m) h2⟩
/-! ### a def -/
def startE (n : Nat) (ds : List D) : Env := ds.map (fun d => some (.st d)) ++ List.replicate (n - ds.length) none
theorem EnvR.starts : ∀ {vs : List V} {ds : List D} {n : Nat}, Reps K b F vs ds → EnvR K b F H (vs.map some ++ List.replicate n none) (ds.map (fun d => some (T.st d)) ++ List.replicate n none) []
  | _, _, 0, .nil => by simp; exact .nil
  | _, _, n + 1, .nil => by
    simp [List.replicate_succ]
    exact .no (by have := EnvR.starts (n := n) Reps.nil; simpa using this)
  | _, _, n, .cons h r => by
    have := EnvR.yes (.st h) (EnvR.starts (n := n) r)
    simpa using this
theorem fn_pw {P : Program} {w : World} {mg : Str → Option Value} {base : Heap} {x qual : Str} {st : Stmt} {fa : Addr} {fd : FuncData} {N ps : List Str} {k : Nat} {sp : PSp} {wS : SW} (Fn : Fun K x qual st fa fd) (S : FnScope N ps (defScope st))
    (hl : ∀ ds R, sp ds R → ds.length = ps.length)
    (body : ∀ (cdv : Value) (A : Around) (outer : List PySem.Env) (s : Shared) (H : Hp) (E : XK), Room k (A.deeper (envOfC qual (defScope st) s.heap.objs.size fa cdv)) → ∃ t, PSs (cxOf CX0 P w K mg base N qual (defScope st) fa cdv A outer s H E).nox (defBody st) t ∧ SoS K t wS)
    (pure : ∀ ds R, sp ds R → wS { nx := fun _ => R .non, rt := R } (startE N.length ds)) : FnOk P w K mg base CX0 (k + 1) fa fd ps (spOf K sp) := by
  refine Fn.ok S (fun vs H Q E h => ?_) (fun cdv A outer s H vs Q E hr h => ?_)
  · obtain ⟨b, F, ds, R, _, r, h, _⟩ := h
    rw [r.length]; exact hl ds R h
  · obtain ⟨b, F, ds, R, f, r, h, q⟩ := h
    obtain ⟨t, pt, so⟩ := body cdv A outer s H E hr
    refine ⟨t, pt, so b F H F H (L2.start N vs) (startE N.length ds) ⟨f.refl, f.2, [], ?_, List.nodup_nil, fun a m => by cases m⟩ _ (pure ds R h) _ ⟨fun F' H' σ' env' s' O' h' => q _ _ F' H' O'.st .non h', fun v d F' H' S' r' h' => q _ _ F' H' S' r' h', fun _ _ _ _ _ _ z => z.elim, fun _ _ _ _ _ _ z => z.elim, fun _ _ _ _ _ _ _ _ _ z => z.elim⟩⟩
    unfold L2.start startE
    rw [r.length]
    exact EnvR.starts r
end
end Pw
namespace Pw
open PySem PySem.Spec PyProof.Rows L2

structure PEw (K : PySem.W.Frag) (X : Cx) (e : Expr) (t : TE) (w : EW) : Prop where
  pe : PE X e t
  so : SoE K t w
structure PNw (K : PySem.W.Frag) (X : Cx) (e : Expr) (t : TE) (w : EW) : Prop where
  pe : PE X e t
  so : SoN K t w
structure PTw (K : PySem.W.Frag) (X : Cx) (e : Expr) (t : TT) (w : TW) : Prop where
  pe : PT X e t
  so : SoT K t w
structure PWw (K : PySem.W.Frag) (X : Cx) (e : Expr) (t : TT) (w : TW) : Prop where
  pe : PW X e t
  so : SoT K t w
structure PAw (K : PySem.W.Frag) (X : Cx) (es : List Expr) (t : TA) (w : AW) : Prop where
  pe : PA X es t
  so : SoA K t w
structure POw (K : PySem.W.Frag) (X : Cx) (e : Option Expr) (t : TO) (w : OW) : Prop where
  pe : PO X e t
  so : SoO K t w
structure PIw (K : PySem.W.Frag) (X : Cx) (tg iter : Expr) (t : TI) (w : IW) : Prop where
  pe : PI X tg iter t
  so : SoI K t w
structure PGw (K : PySem.W.Frag) (X : Cx) (e : Expr) (g : TG) (tg : Tgt) : Prop where
  pe : PG X e g
  so : SoG K g tg
structure PGsw (K : PySem.W.Frag) (X : Cx) (es : List Expr) (g : TGs) (tg : List Tgt) : Prop where
  pe : PGs X es g
  so : SoGs K g tg
structure PTsw (K : PySem.W.Frag) (X : Cx) (es : List Expr) (t : TT) (w : TW) : Prop where
  pe : PTs X es t
  so : SoT K t w
structure PSw (K : PySem.W.Frag) (X : Cx) (s : Stmt) (t : TS) (w : SW) : Prop where
  pe : PS X s t
  so : SoS K t w
structure PSsw (K : PySem.W.Frag) (X : Cx) (s : List Stmt) (t : TS) (w : SW) : Prop where
  pe : PSs X s t
  so : SoS K t w
structure PPw (K : PySem.W.Frag) (X : Cx) (pos : Pos) (keys : List (Option Expr)) (values : List Expr) (trs : List (TE × TE)) (ws : List (EW × EW)) : Prop where
  pe : PPs X pos keys values trs
  so : SoP K trs ws
/-- the built-in names that the top leaves as they are -/
structure Bi (mg : Str → Option Value) : Prop where
  len : mg "len" = none
  int : mg "int" = none
  max : mg "max" = none
  min : mg "min" = none
  tuple : mg "tuple" = none
  list : mg "list" = none
  any : mg "any" = none
  all : mg "all" = none
  sum : mg "sum" = none
  sorted : mg "sorted" = none
  range : mg "range" = none
  enumerate : mg "enumerate" = none
/-- a def of the text that keeps a plain promise -/
def Callee (P : Program) (w : World) (K : PySem.W.Frag) (mg : Str → Option Value) (base : Heap) (k : Nat) (x : Str) (sp : PSp) : Prop :=
  ∃ (f : Addr) (fd : FuncData) (ps : List Str), FnOk P w K mg base CX0 k f fd ps (spOf K sp) ∧ mg x = some (.ref f) ∧ PySem.W.keepIn K (.ref f) = true ∧ L2.Binds K fd ps []

abbrev rLenB (K : PySem.W.Frag) : List V → Hp → VK → Prop := fun xs H Q => ∃ x n, xs = [x] ∧ LenV K x H n ∧ Q (.int n) H
abbrev rIntB : List V → Hp → VK → Prop := fun xs H Q => (∃ i, xs = [.int i] ∧ Q (.int i) H) ∨ ∃ k, xs = [.bl k] ∧ Q (.int (if k then 1 else 0)) H
abbrev rTupB (K : PySem.W.Frag) : List V → Hp → VK → Prop := fun xs H Q => ∃ p ys, xs = [.ref p] ∧ ((SqL K H p ys ∧ ∀ l, H l = none → Q (.ref l) (upd H l (.tup ys))) ∨ (SqT K H p ys ∧ Q (.ref p) H))
abbrev rLstB (K : PySem.W.Frag) : List V → Hp → VK → Prop := fun xs H Q => ∃ p ys, xs = [.ref p] ∧ (SqL K H p ys ∨ SqT K H p ys) ∧ ∀ l, H l = none → Q (.ref l) (upd H l (.lst ys))
abbrev rJoinB (K : PySem.W.Frag) : V → List V → Hp → VK → Prop := fun x xs H Q => ∃ a p, ∃ ys : List Str, x = .str a ∧ xs = [.ref p] ∧ (SqL K H p (ys.map V.str) ∨ SqT K H p (ys.map V.str)) ∧ (ys.map (·.length)).sum + ys.length * a.length ≤ 16777216 ∧ Q (.str (Txt.join a ys)) H
abbrev rSplitB : V → List V → Hp → VK → Prop := fun x xs H Q => ∃ a b, x = .str a ∧ xs = [.str b] ∧ (b.length == 0) = false ∧ a.length + 2 ≤ sizeLine ∧ rNewStrs (Txt.split a b) H Q
section
variable {K : PySem.W.Frag} {X : Cx} {a b c e o i : Expr} {es : List Expr} {ta tb tc te to ti tl : TE} {wa wb wc we wo wi : EW} {pos p p2 apos cpos : Pos} {tr : TA} {wr : AW} {tt tu : TT} {wt wu : TW}
/-! ### expressions -/
theorem x_v (i : Nat) {x : Str} {pos : Pos} (hN : X.N[i]? = some x := by rfl) (hv : Vis X.env.scope x := by first | exact Or.inl rfl | exact Or.inr (Or.inl rfl) | exact Or.inr (Or.inr rfl)) (hd : (x == ("__debug__" : Str)) = false := by decide)
    (hcd : (x == ("__classdict__" : Str)) = false := by decide) : PEw K X (.Name x pos) (tVar i) (wV i) := ⟨pe_var hN hv hd hcd, so_var⟩
theorem x_i {n : Int} {j pos} : PEw K X (.Constant (.int n) j pos) (tC (.int n)) (wC (.int n)) := ⟨pe_int, so_int⟩
theorem x_s {z : Str} {j pos} : PEw K X (.Constant (.str z) j pos) (tC (.str z)) (wC (.str z)) := ⟨pe_str, so_str⟩
theorem x_b {z : Bool} {j pos} : PEw K X (.Constant (.bool z) j pos) (tC (.bl z)) (wC (.bl z)) := ⟨pe_bl, so_bl⟩
theorem x_n {j pos} : PEw K X (.Constant .none j pos) (tC .non) (wC .non) := ⟨pe_non, so_non⟩
theorem x_add (hK : X.K = K) (ha : PEw K X a ta wa) (hb : PEw K X b tb wb) : PEw K X (.BinOp a .Add b pos) (tOp (rAdd K) ta tb) (wOp fAdd wa wb) := by subst hK; exact ⟨pe_op op_addA ha.pe hb.pe, so_op ha.so hb.so sor_add⟩
theorem x_sub (ha : PEw K X a ta wa) (hb : PEw K X b tb wb) : PEw K X (.BinOp a .Sub b pos) (tOp (rI0 fun i j => .int (i - j)) ta tb) (wOp fSub wa wb) := ⟨pe_op op_sub ha.pe hb.pe, so_op ha.so hb.so sor_sub⟩
theorem x_mul (ha : PEw K X a ta wa) (hb : PEw K X b tb wb) : PEw K X (.BinOp a .Mult b pos) (tOp (rI CMul fun i j => .int (i * j)) ta tb) (wOp fMul wa wb) := ⟨pe_op op_mul ha.pe hb.pe, so_op ha.so hb.so sor_mul⟩
theorem x_div (ha : PEw K X a ta wa) (hb : PEw K X b tb wb) : PEw K X (.BinOp a .FloorDiv b pos) (tOp (rI CDivN fun i j => .int (i.fdiv j)) ta tb) (wOp fDiv wa wb) := ⟨pe_op op_fdivN ha.pe hb.pe, so_op ha.so hb.so sor_div⟩
theorem x_mod (ha : PEw K X a ta wa) (hb : PEw K X b tb wb) : PEw K X (.BinOp a .Mod b pos) (tOp (rI (fun _ j => 0 < j) fun i j => .int (i % j)) ta tb) (wOp fMod wa wb) := ⟨pe_op op_mod ha.pe hb.pe, so_op ha.so hb.so sor_mod⟩
theorem x_pow (ha : PEw K X a ta wa) (hb : PEw K X b tb wb) : PEw K X (.BinOp a .Pow b pos) (tOp (rI CPow fun i j => .int (i ^ j.toNat)) ta tb) (wOp fPow wa wb) := ⟨pe_op op_pow ha.pe hb.pe, so_op ha.so hb.so sor_pow⟩
theorem x_neg (ha : PEw K X a ta wa) : PEw K X (.UnaryOp .USub a pos) (tUn (rU fun i => .int (-i)) ta) (wUn fNeg wa) := ⟨pe_un un_neg ha.pe, so_un ha.so sou_neg⟩
theorem x_lt (ha : PEw K X a ta wa) (hb : PEw K X b tb wb) : PEw K X (.Compare a [.Lt] [b] pos) (tOp (rI0 fun i j => .bl (decide (i < j))) ta tb) (wOp fLt wa wb) := ⟨pe_cmpR op_lt ha.pe hb.pe (nomark _), so_op ha.so hb.so sor_lt⟩
theorem x_le (ha : PEw K X a ta wa) (hb : PEw K X b tb wb) : PEw K X (.Compare a [.LtE] [b] pos) (tOp (rI0 fun i j => .bl (decide (i ≤ j))) ta tb) (wOp fLe wa wb) := ⟨pe_cmpR op_le ha.pe hb.pe (nomark _), so_op ha.so hb.so sor_le⟩
theorem x_gt (ha : PEw K X a ta wa) (hb : PEw K X b tb wb) : PEw K X (.Compare a [.Gt] [b] pos) (tOp (rI0 fun i j => .bl (decide (j < i))) ta tb) (wOp fGt wa wb) := ⟨pe_cmpR op_gt ha.pe hb.pe (nomark _), so_op ha.so hb.so sor_gt⟩
theorem x_ge (ha : PEw K X a ta wa) (hb : PEw K X b tb wb) : PEw K X (.Compare a [.GtE] [b] pos) (tOp (rI0 fun i j => .bl (decide (j ≤ i))) ta tb) (wOp fGe wa wb) := ⟨pe_cmpR op_ge ha.pe hb.pe (nomark _), so_op ha.so hb.so sor_ge⟩
theorem x_eq (hK : X.K = K) (hu : X.A.units + 64 < cLine) (ha : PEw K X a ta wa) (hb : PEw K X b tb wb) : PEw K X (.Compare a [.Eq] [b] pos) (tOp (rEqA K) ta tb) (wOp fEqA wa wb) := by subst hK; exact ⟨pe_cmpR (op_eqA hu) ha.pe hb.pe (nomark _), so_op ha.so hb.so sor_eqA⟩
theorem x_ne (hK : X.K = K) (hu : X.A.units + 64 < cLine) (ha : PEw K X a ta wa) (hb : PEw K X b tb wb) : PEw K X (.Compare a [.NotEq] [b] pos) (tOp (rNeA K) ta tb) (wOp fNeA wa wb) := by subst hK; exact ⟨pe_cmpR (op_neA hu) ha.pe hb.pe (nomark _), so_op ha.so hb.so sor_neA⟩
theorem x_isn (ha : PEw K X a ta wa) (hb : PEw K X b tb wb) : PEw K X (.Compare a [.Is] [b] pos) (tOp (fun x y H Q => y = V.non ∧ Q (V.bl (decide (x = V.non))) H) ta tb) (wOp fIsN wa wb) := ⟨pe_cmpR op_isN ha.pe hb.pe (nomark _), so_op ha.so hb.so sor_isN⟩
theorem x_notn (ha : PEw K X a ta wa) (hb : PEw K X b tb wb) : PEw K X (.Compare a [.IsNot] [b] pos) (tOp (fun x y H Q => y = V.non ∧ Q (V.bl (!decide (x = V.non))) H) ta tb) (wOp fNotN wa wb) := ⟨pe_cmpR op_notN ha.pe hb.pe (nomark _), so_op ha.so hb.so sor_notN⟩
theorem hu1 {A : Around} (h : A.units + 64 < cLine) : A.units + 1 < cLine := by omega
theorem x_in (hK : X.K = K) (hu : X.A.units + 64 < cLine) (ha : PEw K X a ta wa) (hb : PEw K X b tb wb) (hm : behindInMarks .In b = false := by rfl) : PEw K X (.Compare a [.In] [b] pos) (tOp (rInA K false) ta tb) (wOp (fInA false) wa wb) := by subst hK; exact ⟨pe_cmpR (op_inA (hu1 hu)) ha.pe hb.pe hm, so_op ha.so hb.so sor_inA⟩
theorem x_nin (hK : X.K = K) (hu : X.A.units + 64 < cLine) (ha : PEw K X a ta wa) (hb : PEw K X b tb wb) (hm : behindInMarks .NotIn b = false := by rfl) : PEw K X (.Compare a [.NotIn] [b] pos) (tOp (rInA K true) ta tb) (wOp (fInA true) wa wb) := by subst hK; exact ⟨pe_cmpR (op_notInA (hu1 hu)) ha.pe hb.pe hm, so_op ha.so hb.so sor_inA⟩
theorem x_ix (hK : X.K = K) (hu : X.A.units + 64 < cLine) (ha : PEw K X a ta wa) (hb : PEw K X b tb wb) (hs : PlainIx b := by exact fun _ _ => rfl) : PEw K X (.Subscript a b pos) (tOp (rGetA K) ta tb) (wOp fGet wa wb) := by subst hK; exact ⟨pe_ix (ix_any (hu1 hu)) ha.pe hb.pe hs, so_op ha.so hb.so sor_get⟩
theorem o_no : POw K X none tNoPart wNo := ⟨po_none, so_no⟩
theorem o_so (h : PEw K X e te we) : POw K X (some e) (tPart te) (wSo we) := ⟨po_some h.pe, so_so h.so⟩
theorem x_sl {lo hi : Option Expr} {tlo thi : TO} {wl wh : OW} (hK : X.K = K) (ha : PEw K X a ta wa) (hl : POw K X lo tlo wl) (hh : POw K X hi thi wh) : PEw K X (.Subscript a (.Slice lo hi none p2) pos) (tSl (rSlA K) ta tlo thi) (wSl wa wl wh) := by subst hK; exact ⟨pe_slice sl_any ha.pe hl.pe hh.pe, so_sl ha.so hl.so hh.so⟩
theorem x_rev {k : Nat} {p1 p2 p3 : Pos} (hK : X.K = K) (ha : PEw K X a ta wa) : PEw K X (.Subscript a (.Slice none none (some (.UnaryOp .USub (.Constant (.int 1) k p1) p2)) p3) pos) (tRevL K ta) (wRev wa) := by subst hK; exact ⟨pe_revL ha.pe, so_rev ha.so⟩
theorem a_nil : PAw K X [] tNil wNil := ⟨pa_nil, so_nil⟩
theorem a_cons (h : PEw K X e te we) (hr : PAw K X es tr wr) (hs : starEach (e :: es) X.env = (false, eval e X.env) :: starEach es X.env := by rfl) : PAw K X (e :: es) (tCons te tr) (wCons we wr) := ⟨pa_cons h.pe hr.pe hs, so_cons h.so hr.so⟩
theorem x_tup {x1} (h : PAw K X es tr wr) : PEw K X (.Tuple es x1 pos) (tTup tr) (wTup wr) := ⟨pe_tup h.pe, so_tup h.so⟩
theorem n_lst (h : PAw K X es tr wr) : PNw K X (.List es pos) (tLst tr) (wLst wr) := ⟨pe_lst h.pe, so_lst h.so⟩
theorem n_dk : PNw K X (.Dict [] [] pos) tDNewK wDk := ⟨pe_dnewK, so_dnewK⟩
theorem n_dt : PNw K X (.Dict [] [] pos) tDNewT wDt := ⟨pe_dnewT, so_dnewT⟩
theorem d_nil {pos : Pos} : PPw K X pos [] [] [] [] := ⟨pps_nil, .nil⟩
theorem d_cons {pos : Pos} {k v : Expr} {ks : List (Option Expr)} {vs : List Expr} {tk tv : TE} {wk wv : EW} {trs : List (TE × TE)} {ws : List (EW × EW)} (hk : PEw K X k tk wk) (hv : PEw K X v tv wv) (hr : PPw K X pos ks vs trs ws) : PPw K X pos (some k :: ks) (v :: vs) ((tk, tv) :: trs) ((wk, wv) :: ws) := ⟨pps_cons hk.pe hv.pe hr.pe, .cons hk.so hv.so hr.so⟩
theorem n_disp {keys : List (Option Expr)} {values : List Expr} {trs : List (TE × TE)} {ws : List (EW × EW)} (h : PPw K X pos keys values trs ws) (hall : keys.all (·.isSome) = true := by rfl) (hl : keys.length = values.length := by rfl) (h0 : keys ≠ [] := by intro z; cases z) (h15 : keys.length ≤ 15 := by decide) : PNw K X (.Dict keys values pos) (tDisp trs) (wDisp ws) := ⟨pe_disp h.pe hall hl h0 h15, so_disp h.so⟩
theorem x_fz (h : PNw K X e te we) : PEw K X e te (wFz we) := ⟨h.pe, so_fz h.so⟩
theorem n_nw (h : PEw K X e te we) : PNw K X e te (wNw we) := ⟨h.pe, so_nw h.so⟩
theorem x_if (hc : PTw K X c tt wt) (ha : PEw K X a ta wa) (hb : PEw K X b tb wb) : PEw K X (.IfExp c a b pos) (tIf tt ta tb) (wIf wt wa wb) := ⟨pe_ifExp hc.pe ha.pe hb.pe, so_if hc.so ha.so hb.so⟩
/-! ### tests -/
theorem t_of (h : PEw K X e te we) (he : ∀ whole, isTrue e X.env whole = (do let v ← whole; standAt e.pos; holding [v] (truthy v)) := by intro _; rfl) : PTw K X e (tB te) (wTest we) := ⟨pt_val h.pe he, so_B h.so⟩
theorem t_tru (hK : X.K = K) (h : PEw K X e te we) (he : ∀ whole, isTrue e X.env whole = (do let v ← whole; standAt e.pos; holding [v] (truthy v)) := by intro _; rfl) : PTw K X e (fun σ H Q => te σ H fun x H' => ∃ k, TruV K x H' k ∧ Q k H') (wTru we) := by subst hK; exact ⟨pt_truth h.pe he, so_tru h.so⟩
theorem t_lt (ha : PEw K X a ta wa) (hb : PEw K X b tb wb) : PTw K X (.Compare a [.Lt] [b] pos) (tTest (tOp (rI0 fun i j => .bl (decide (i < j))) ta tb)) (wTest (wOp fLt wa wb)) := ⟨pt_cmpR op_lt ha.pe hb.pe (nomark _), so_test (so_op ha.so hb.so sor_lt)⟩
theorem t_le (ha : PEw K X a ta wa) (hb : PEw K X b tb wb) : PTw K X (.Compare a [.LtE] [b] pos) (tTest (tOp (rI0 fun i j => .bl (decide (i ≤ j))) ta tb)) (wTest (wOp fLe wa wb)) := ⟨pt_cmpR op_le ha.pe hb.pe (nomark _), so_test (so_op ha.so hb.so sor_le)⟩
theorem t_gt (ha : PEw K X a ta wa) (hb : PEw K X b tb wb) : PTw K X (.Compare a [.Gt] [b] pos) (tTest (tOp (rI0 fun i j => .bl (decide (j < i))) ta tb)) (wTest (wOp fGt wa wb)) := ⟨pt_cmpR op_gt ha.pe hb.pe (nomark _), so_test (so_op ha.so hb.so sor_gt)⟩
theorem t_ge (ha : PEw K X a ta wa) (hb : PEw K X b tb wb) : PTw K X (.Compare a [.GtE] [b] pos) (tTest (tOp (rI0 fun i j => .bl (decide (j ≤ i))) ta tb)) (wTest (wOp fGe wa wb)) := ⟨pt_cmpR op_ge ha.pe hb.pe (nomark _), so_test (so_op ha.so hb.so sor_ge)⟩
theorem t_eq (hK : X.K = K) (hu : X.A.units + 64 < cLine) (ha : PEw K X a ta wa) (hb : PEw K X b tb wb) : PTw K X (.Compare a [.Eq] [b] pos) (tTest (tOp (rEqA K) ta tb)) (wTest (wOp fEqA wa wb)) := by subst hK; exact ⟨pt_cmpR (op_eqA hu) ha.pe hb.pe (nomark _), so_test (so_op ha.so hb.so sor_eqA)⟩
theorem t_ne (hK : X.K = K) (hu : X.A.units + 64 < cLine) (ha : PEw K X a ta wa) (hb : PEw K X b tb wb) : PTw K X (.Compare a [.NotEq] [b] pos) (tTest (tOp (rNeA K) ta tb)) (wTest (wOp fNeA wa wb)) := by subst hK; exact ⟨pt_cmpR (op_neA hu) ha.pe hb.pe (nomark _), so_test (so_op ha.so hb.so sor_neA)⟩
theorem t_isn (ha : PEw K X a ta wa) (hb : PEw K X b tb wb) : PTw K X (.Compare a [.Is] [b] pos) (tTest (tOp (fun x y H Q => y = V.non ∧ Q (V.bl (decide (x = V.non))) H) ta tb)) (wTest (wOp fIsN wa wb)) := ⟨pt_cmpR op_isN ha.pe hb.pe (nomark _), so_test (so_op ha.so hb.so sor_isN)⟩
theorem t_notn (ha : PEw K X a ta wa) (hb : PEw K X b tb wb) : PTw K X (.Compare a [.IsNot] [b] pos) (tTest (tOp (fun x y H Q => y = V.non ∧ Q (V.bl (!decide (x = V.non))) H) ta tb)) (wTest (wOp fNotN wa wb)) := ⟨pt_cmpR op_notN ha.pe hb.pe (nomark _), so_test (so_op ha.so hb.so sor_notN)⟩
theorem t_in (hK : X.K = K) (hu : X.A.units + 64 < cLine) (ha : PEw K X a ta wa) (hb : PEw K X b tb wb) (hm : behindInMarks .In b = false := by rfl) : PTw K X (.Compare a [.In] [b] pos) (tTest (tOp (rInA K false) ta tb)) (wTest (wOp (fInA false) wa wb)) := by subst hK; exact ⟨pt_cmpR (op_inA (hu1 hu)) ha.pe hb.pe hm, so_test (so_op ha.so hb.so sor_inA)⟩
theorem t_nin (hK : X.K = K) (hu : X.A.units + 64 < cLine) (ha : PEw K X a ta wa) (hb : PEw K X b tb wb) (hm : behindInMarks .NotIn b = false := by rfl) : PTw K X (.Compare a [.NotIn] [b] pos) (tTest (tOp (rInA K true) ta tb)) (wTest (wOp (fInA true) wa wb)) := by subst hK; exact ⟨pt_cmpR (op_notInA (hu1 hu)) ha.pe hb.pe hm, so_test (so_op ha.so hb.so sor_inA)⟩
theorem w_and1 (h : PTw K X a tt wt) : PWw K X (.BoolOp .And [a] pos) tt wt := ⟨pw_and1 h.pe, h.so⟩
theorem w_and {rest : List Expr} (h : PTw K X a tt wt) (h' : PWw K X (.BoolOp .And (b :: rest) pos) tu wu) : PWw K X (.BoolOp .And (a :: b :: rest) pos) (tAnd tt tu) (wAnd wt wu) := ⟨pw_and h.pe h'.pe, so_and h.so h'.so⟩
theorem w_or1 (h : PTw K X a tt wt) : PWw K X (.BoolOp .Or [a] pos) tt wt := ⟨pw_or1 h.pe, h.so⟩
theorem w_or {rest : List Expr} (h : PTw K X a tt wt) (h' : PWw K X (.BoolOp .Or (b :: rest) pos) tu wu) : PWw K X (.BoolOp .Or (a :: b :: rest) pos) (tOr tt tu) (wOr wt wu) := ⟨pw_or h.pe h'.pe, so_or h.so h'.so⟩
theorem t_bop (h : PWw K X e tt wt) : PTw K X e tt wt := ⟨h.pe.pt, h.so⟩
theorem t_not (h : PTw K X a tt wt) : PTw K X (.UnaryOp .Not a pos) (tNot tt) (wNot wt) := ⟨pt_not h.pe, so_not h.so⟩
/-! ### calls -/
theorem x_call {k j : Nat} {x : Str} {sp : PSp} (hK : X.K = K) (c : Callee X.prog X.w K X.mg X.base k x sp) (hr : Room j X.A) (hk : k ≤ j) (ha : PAw K X (e :: es) tr wr) (hg : Gl X x := by rfl) (hdb : (x == ("__debug__" : Str)) = false := by decide)
    (he : starEach (e :: es) X.env = (false, eval e X.env) :: starEach es X.env := by rfl) (hpl : (backTo pos (starEach es X.env)).any (·.1) = false := by rfl) : PEw K X (.Call (.Name x p) (e :: es) [] pos) (tCall (spOf K sp) [] E0 tr) (wCall sp wr) := by
  subst hK
  obtain ⟨f, fd, ps, F, hm, kp, bd⟩ := c
  exact ⟨pe_call F (hr.mono hk) hg hm kp bd .nil pass0 ha.pe hdb he hpl, so_call ha.so⟩
section
variable (B : Bi X.mg)
include B
theorem x_len (hK : X.K = K) (ha : PAw K X [a] tr wr) (hg : Gl X "len" := by rfl) (he : starEach [a] X.env = (false, eval a X.env) :: starEach [] X.env := by rfl) (hpl : (backTo pos (starEach [] X.env)).any (·.1) = false := by rfl) : PEw K X (.Call (.Name "len" p) [a] [] pos) (tCB (rLenB K) tr) (wCB fLen wr) := by subst hK; exact ⟨pe_callB call_len hg B.len PySem.boot_len ha.pe (by decide) (by decide) he hpl, so_cb ha.so soc_len⟩
theorem x_int (ha : PAw K X [a] tr wr) (hg : Gl X "int" := by rfl) (he : starEach [a] X.env = (false, eval a X.env) :: starEach [] X.env := by rfl) (hpl : (backTo pos (starEach [] X.env)).any (·.1) = false := by rfl) : PEw K X (.Call (.Name "int" p) [a] [] pos) (tCB rIntB tr) (wCB fInt wr) := ⟨pe_callTy call_int1 hg B.int (by decide +kernel) ha.pe (by decide) (by decide) he hpl, so_cb ha.so soc_int⟩
theorem x_max (hK : X.K = K) (hc : X.calm = true) (ha : PAw K X (a :: es) tr wr) (hg : Gl X "max" := by rfl) (he : starEach (a :: es) X.env = (false, eval a X.env) :: starEach es X.env := by rfl) (hpl : (backTo pos (starEach es X.env)).any (·.1) = false := by rfl) : PEw K X (.Call (.Name "max" p) (a :: es) [] pos) (tCB (rMaxA K) tr) (wCB fMax wr) := by subst hK; exact ⟨pe_callB (call_maxA hc) hg B.max (by decide +kernel) ha.pe (by decide) (by decide) he hpl, so_cb ha.so soc_max⟩
theorem x_min (hK : X.K = K) (hc : X.calm = true) (ha : PAw K X (a :: es) tr wr) (hg : Gl X "min" := by rfl) (he : starEach (a :: es) X.env = (false, eval a X.env) :: starEach es X.env := by rfl) (hpl : (backTo pos (starEach es X.env)).any (·.1) = false := by rfl) : PEw K X (.Call (.Name "min" p) (a :: es) [] pos) (tCB (rMinA K) tr) (wCB fMin wr) := by subst hK; exact ⟨pe_callB (call_minA hc) hg B.min (by decide +kernel) ha.pe (by decide) (by decide) he hpl, so_cb ha.so soc_min⟩
theorem x_tuple (hK : X.K = K) (ha : PAw K X [a] tr wr) (hg : Gl X "tuple" := by rfl) (he : starEach [a] X.env = (false, eval a X.env) :: starEach [] X.env := by rfl) (hpl : (backTo pos (starEach [] X.env)).any (·.1) = false := by rfl) : PEw K X (.Call (.Name "tuple" p) [a] [] pos) (tCB (rTupB K) tr) (wCB fTuple wr) := by subst hK; exact ⟨pe_callTy call_tuple_of hg B.tuple (by decide +kernel) ha.pe (by decide) (by decide) he hpl, so_cb ha.so soc_tuple⟩
theorem x_list (hK : X.K = K) (ha : PAw K X [a] tr wr) (hg : Gl X "list" := by rfl) (he : starEach [a] X.env = (false, eval a X.env) :: starEach [] X.env := by rfl) (hpl : (backTo pos (starEach [] X.env)).any (·.1) = false := by rfl) : PEw K X (.Call (.Name "list" p) [a] [] pos) (tCB (rLstB K) tr) (wCB fList wr) := by subst hK; exact ⟨pe_callTy call_list_of hg B.list (by decide +kernel) ha.pe (by decide) (by decide) he hpl, so_cb ha.so soc_list⟩
theorem x_any (hK : X.K = K) (hc : X.calm = true) (ha : PAw K X [a] tr wr) (hg : Gl X "any" := by rfl) (he : starEach [a] X.env = (false, eval a X.env) :: starEach [] X.env := by rfl) (hpl : (backTo pos (starEach [] X.env)).any (·.1) = false := by rfl) : PEw K X (.Call (.Name "any" p) [a] [] pos) (tCB (rAny K) tr) (wCB fAny wr) := by subst hK; exact ⟨pe_callB (cr_any hc) hg B.any (by decide +kernel) ha.pe (by decide) (by decide) he hpl, so_cb ha.so soc_any⟩
theorem x_all (hK : X.K = K) (hc : X.calm = true) (ha : PAw K X [a] tr wr) (hg : Gl X "all" := by rfl) (he : starEach [a] X.env = (false, eval a X.env) :: starEach [] X.env := by rfl) (hpl : (backTo pos (starEach [] X.env)).any (·.1) = false := by rfl) : PEw K X (.Call (.Name "all" p) [a] [] pos) (tCB (rAll K) tr) (wCB fAll wr) := by subst hK; exact ⟨pe_callB (cr_all hc) hg B.all (by decide +kernel) ha.pe (by decide) (by decide) he hpl, so_cb ha.so soc_all⟩
theorem x_sum (hK : X.K = K) (hc : X.calm = true) (ha : PAw K X [a] tr wr) (hg : Gl X "sum" := by rfl) (he : starEach [a] X.env = (false, eval a X.env) :: starEach [] X.env := by rfl) (hpl : (backTo pos (starEach [] X.env)).any (·.1) = false := by rfl) : PEw K X (.Call (.Name "sum" p) [a] [] pos) (tCB (rSum K) tr) (wCB fSum wr) := by subst hK; exact ⟨pe_callB (cr_sum hc) hg B.sum (by decide +kernel) ha.pe (by decide) (by decide) he hpl, so_cb ha.so soc_sum⟩
theorem x_sortS (hK : X.K = K) (ha : PAw K X [a] tr wr) (hg : Gl X "sorted" := by rfl) (he : starEach [a] X.env = (false, eval a X.env) :: starEach [] X.env := by rfl) (hpl : (backTo pos (starEach [] X.env)).any (·.1) = false := by rfl) : PEw K X (.Call (.Name "sorted" p) [a] [] pos) (tCB (rSortedS K) tr) (wCB fSortS wr) := by subst hK; exact ⟨pe_callB cr_sortedS hg B.sorted (by decide +kernel) ha.pe (by decide) (by decide) he hpl, so_cb ha.so soc_sortS⟩
/-! ### what is walked -/
theorem i_rg1 {tg : Expr} (ha : PAw K X [a] tr wr) (hg : Gl X "range" := by rfl) (hs : starEach [a] X.env = [(false, eval a X.env)] := by rfl) : PIw K X tg (.Call (.Name "range" p) [a] [] pos) (iRng1 tr) (wRg1 wr) := ⟨pi_range1 hg B.range ha.pe hs, so_rg1 ha.so⟩
theorem i_rg2 {tg : Expr} (ha : PAw K X [a, b] tr wr) (hg : Gl X "range" := by rfl) (hs : starEach [a, b] X.env = [(false, eval a X.env), (false, eval b X.env)] := by rfl) (hs2 : starEach [b] X.env = [(false, eval b X.env)] := by rfl) : PIw K X tg (.Call (.Name "range" p) [a, b] [] pos) (iRng2 tr) (wRg2 wr) := ⟨pi_range2 hg B.range ha.pe hs hs2, so_rg2 ha.so⟩
theorem i_rg3 {tg : Expr} (ha : PAw K X [a, b, c] tr wr) (hg : Gl X "range" := by rfl) (hs : starEach [a, b, c] X.env = (false, eval a X.env) :: starEach [b, c] X.env := by rfl) (hpl : (backTo pos (starEach [b, c] X.env)).any (·.1) = false := by rfl) : PIw K X tg (.Call (.Name "range" p) [a, b, c] [] pos) (iRng3 tr) (wRg3 wr) := ⟨pi_range3 hg B.range ha.pe hs hpl, so_rg3 ha.so⟩
theorem i_enum {elts : List Expr} {kk : Nat} {tpos : Pos} (hK : X.K = K) (ha : PAw K X [a] tr wr) (hg : Gl X "enumerate" := by rfl) (hs : starEach [a] X.env = [(false, eval a X.env)] := by rfl) : PIw K X (.Tuple elts kk tpos) (.Call (.Name "enumerate" p) [a] [] pos) (iEnum K tr) (wEnum wr) := by subst hK; exact ⟨pi_enum hg B.enumerate ha.pe hs, so_enum ha.so⟩
end
theorem i_seq {tg : Expr} (hK : X.K = K) (h : PEw K X a ta wa) : PIw K X tg a (iSeq K ta) (wItS wa) := by subst hK; exact ⟨pi_seq h.pe, so_its h.so⟩
/-! ### methods -/
theorem x_index (hK : X.K = K) (ho : PEw K X o to wo) (ha : PAw K X [e] tr wr)
    (hbase : attributeBase o "index" X.env (eval o X.env) = eval o X.env := by rfl) (hfew : ((backTo cpos (starEach [e] X.env)).all (fun x => !x.1) && (backToKw cpos (keywordEach [] X.env)).all (fun x => x.1.isSome) && decide (([e] : List Expr).length + ([] : List Keyword).length + (if ([] : List Keyword).isEmpty then 0 else 1) < 30)) = true := by rfl)
    (hline : (apos.endLine == cpos.line) = true := by rfl) (hs : starEach [e] X.env = (false, eval e X.env) :: starEach [] X.env := by rfl) (hplain : (backTo cpos (starEach [] X.env)).any (·.1) = false := by rfl) : PEw K X (.Call (.Attribute o "index" apos) [e] [] cpos) (tBM K "list" (rIndex K) to tr) (wM fIndex wo wr) := by
  subst hK
  exact ⟨pe_bm PySem.F.plainAttrs_list PySem.F.slot_list_index PySem.F.type_list_index mt_index ho.pe ha.pe hbase hfew hline hs hplain, so_bm ho.so ha.so som_index⟩
theorem x_join (hK : X.K = K) (ho : PEw K X o to wo) (h : PEw K X e te we) (hs : starEach [e] X.env = [(false, eval e X.env)] := by rfl) (hbase : attributeBase o "join" X.env (eval o X.env) = eval o X.env := by rfl) (hline : (apos.endLine == pos.line) = true := by rfl) : PEw K X (.Call (.Attribute o "join" apos) [e] [] pos) (tM1 (rJoinB K) to te) (wM1 fJoin wo we) := by subst hK; exact ⟨pe_join ho.pe h.pe hs hbase hline, so_m1 ho.so h.so som_join⟩
theorem x_split (ho : PEw K X o to wo) (h : PEw K X e te we) (hs : starEach [e] X.env = [(false, eval e X.env)] := by rfl) (hbase : attributeBase o "split" X.env (eval o X.env) = eval o X.env := by rfl) (hline : (apos.endLine == pos.line) = true := by rfl) : PEw K X (.Call (.Attribute o "split" apos) [e] [] pos) (tM1 rSplitB to te) (wM1 fSplit wo we) := ⟨pe_split ho.pe h.pe hs hbase hline, so_m1 ho.so h.so som_split⟩
theorem x_get2 {f : Expr} {tf : TE} {wf : EW} (hu : X.A.units + 64 < cLine) (ho : PEw K X o to wo) (h : PEw K X e te we) (hf : PEw K X f tf wf) (m : M2 X o "get" apos e f cpos := by exact ⟨rfl, rfl, rfl, rfl⟩) : PEw K X (.Call (.Attribute o "get" apos) [e, f] [] cpos) (tDGet2 to te tf) (wGet2 wo we wf) := ⟨pe_dget2 (hu1 hu) ho.pe h.pe hf.pe m, so_dget2 ho.so h.so hf.so⟩
/-! ### targets -/
theorem g_nm (i : Nat) {x : Str} (hN : X.N.Nodup) (hi : X.N[i]? = some x := by rfl) (hx : L2.Loc X.env.scope x := by first | exact Or.inl rfl | exact Or.inr rfl) (hf : X.fn x = true ∨ X.env.scope.names.lookup x = some .local := by first | exact .inl rfl | exact .inr rfl | assumption) : PGw K X (.Name x pos) (gName i) (.nm i) := ⟨pg_name hN hi hx hf, so_gn⟩
theorem gs_nil : PGsw K X [] gNil [] := ⟨pgs_nil, so_gnil⟩
theorem gs_cons {g : TG} {gs : TGs} {tg : Tgt} {tgs : List Tgt} (h : PGw K X e g tg) (hr : PGsw K X es gs tgs) (hs : (assignEach (e :: es) X.env).map (·.2) = assign e X.env :: (assignEach es X.env).map (·.2) := by rfl) : PGsw K X (e :: es) (gCons g gs) (tg :: tgs) := ⟨pgs_cons h.pe hr.pe hs, so_gcons h.so hr.so⟩
theorem g_tp {k : Nat} {gs : TGs} {tgs : List Tgt} (hK : X.K = K) (hc : X.calm = true) (h : PGsw K X es gs tgs) (hn : (assignEach es X.env).length = tgs.length := by rfl) (hst : (assignEach es X.env).findIdx? (·.1) = none := by rfl) : PGw K X (.Tuple es k pos) (gTup K tgs.length gs) (.tp tgs) := by subst hK; exact ⟨pg_tup hc h.pe hn hst, so_gtup h.so rfl⟩
/-! ### comprehensions -/
abbrev Blk (X : Cx) (scope : Scope) (R : Cx → Prop) : Prop := ∀ (s : Shared) (H : Hp) (C : Addr) (cl : List (Str × Addr)) (fp : List Addr), R (X.blk s H scope (compEnvC scope cl C X.env) fp)
theorem Blk.one {scope : Scope} {R : Cx → Prop} (h : Blk X scope R) : R (X.blk X.s_0 X.H_0 scope (compEnvC scope [] 0 X.env) []) := h _ _ _ _ _
theorem ts_nil : PTsw K X [] tYes wYes := ⟨pts_nil, so_yes⟩
theorem ts_one (h : PTw K X c tt wt) : PTsw K X [c] tt wt := ⟨pts_one h.pe, h.so⟩
section
variable {elt kx vx tg iter : Expr} {ifs : List Expr} {scope : Scope} {wI : TI} {wi : IW} {g : TG} {tgt : Tgt} {tk : TE} {wk : EW}
theorem n_lc (own : List (Str × Nat)) (hc : X.calm = true) (hN : X.N.Nodup) (hi : PIw K X tg iter wI wi) (hg : Blk X scope fun Y => PGw K Y tg g tgt) (ht : Blk X scope fun Y => PTsw K Y ifs tt wt) (he : Blk X scope fun Y => PNw K Y elt te we)
    (ok : blkC X.N X.env.scope scope own = true := by kernel_rfl) (hv : ∀ i ∈ tgt.slots, i ∈ own.map (·.2) := by decide) (hs : ∀ x, foldedSetIterable iter X.env x = pure x := by intro _; rfl) :
    PNw K X (.ListComp elt [⟨tg, iter, ifs, 0⟩] scope pos) (tLc wI g tt te (own.map (·.2))) (wLc wi tgt wt we (own.map (·.2))) :=
  ⟨pe_lc hc hN hi.pe (blkOk_by ok) (fun s H C cl fp => (hg s H C cl fp).pe) (fun s H C cl fp => (ht s H C cl fp).pe) (fun s H C cl fp => (he s H C cl fp).pe) hs, so_lc hi.so hg.one.so hv ht.one.so he.one.so⟩
theorem n_dc (own : List (Str × Nat)) (hc : X.calm = true) (hN : X.N.Nodup) (hi : PIw K X tg iter wI wi) (hg : Blk X scope fun Y => PGw K Y tg g tgt) (ht : Blk X scope fun Y => PTsw K Y ifs tt wt) (hk : Blk X scope fun Y => PEw K Y kx tk wk) (he : Blk X scope fun Y => PNw K Y vx te we)
    (ok : blkC X.N X.env.scope scope own = true := by kernel_rfl) (hv : ∀ i ∈ tgt.slots, i ∈ own.map (·.2) := by decide) (hs : ∀ x, foldedSetIterable iter X.env x = pure x := by intro _; rfl) :
    PNw K X (.DictComp kx vx [⟨tg, iter, ifs, 0⟩] scope pos) (tDc wI g tt tk te (own.map (·.2))) (wDc wi tgt wt wk we (own.map (·.2))) :=
  ⟨pe_dc hc hN hi.pe (blkOk_by ok) (fun s H C cl fp => (hg s H C cl fp).pe) (fun s H C cl fp => (ht s H C cl fp).pe) (fun s H C cl fp => (hk s H C cl fp).pe) (fun s H C cl fp => (he s H C cl fp).pe) hs, so_dc hi.so hg.one.so hv ht.one.so hk.one.so he.one.so⟩
/-! ### statements -/
variable {s : Stmt} {ss : List Stmt} {t t' : TS} {w w' : SW} {spos py : Pos} {y : Str}
theorem ss_nil : PSsw K X [] tNext sNext := ⟨pss_nil, so_next⟩
theorem ss_cons (h : PSw K X s t w) (hr : PSsw K X ss t' w') : PSsw K X (s :: ss) (tSeq t t') (sSeq w w') := ⟨pss_cons h.pe hr.pe, so_seq h.so hr.so⟩
theorem ss_one (h : PSw K X s t w) : PSsw K X [s] t w := ⟨pss_one h.pe, h.so⟩
theorem ss_frz (i : Nat) (h : PSsw K X ss t w) : PSsw K X ss t (sFrz i w) := ⟨h.pe, so_frz h.so⟩
theorem ss_never : PSsw K X ss tNever sNever := ⟨pss_never, so_never⟩
theorem y_asg (i : Nat) (hN : X.N.Nodup) (h : PEw K X e te we) (hi : X.N[i]? = some y := by rfl) (hx : L2.Loc X.env.scope y := by first | exact Or.inl rfl | exact Or.inr rfl) (hs : swapsWith e (some (.Name y py)) spos.line X.env = pure false := by rfl) (hf : X.fn y = true ∨ X.env.scope.names.lookup y = some .local := by first | exact .inl rfl | exact .inr rfl | assumption) :
    PSw K X (.Assign [.Name y py] e spos) (tAsg te (gName i)) (sAsg i we) := ⟨ps_set hN hi hx h.pe hs hf, so_asg h.so⟩
theorem y_new (i : Nat) (hN : X.N.Nodup) (h : PNw K X e te we) (hi : X.N[i]? = some y := by rfl) (hx : L2.Loc X.env.scope y := by first | exact Or.inl rfl | exact Or.inr rfl) (hs : swapsWith e (some (.Name y py)) spos.line X.env = pure false := by rfl) (hf : X.fn y = true ∨ X.env.scope.names.lookup y = some .local := by first | exact .inl rfl | exact .inr rfl | assumption) :
    PSw K X (.Assign [.Name y py] e spos) (tAsg te (gName i)) (sNew i we) := ⟨ps_set hN hi hx h.pe hs hf, so_new h.so⟩
/-- a name that is no cell, [..] on its line -/
theorem y_newLc (i : Nat) (own : List (Str × Nat)) (hc : X.calm = true) (hN : X.N.Nodup) (hi : PIw K X tg iter wI wi) (hg : Blk X scope fun Y => PGw K Y tg g tgt) (ht : Blk X scope fun Y => PTsw K Y ifs tt wt) (he : Blk X scope fun Y => PNw K Y elt te we)
    (hy : X.N[i]? = some y := by rfl) (hyl : X.env.scope.names.lookup y = some .local := by rfl) (hk : X.env.scope.kind = .function := by rfl) (hl : (py.line == pos.line) = true := by rfl) (hq : (scope.names.any fun (n, k) => n == y && (k == .local || k == .cell)) = false := by kernel_rfl)
    (ok : blkC X.N X.env.scope scope own = true := by kernel_rfl) (hv : ∀ i ∈ tgt.slots, i ∈ own.map (·.2) := by decide) (hs : ∀ x, foldedSetIterable iter X.env x = pure x := by intro _; rfl) :
    PSw K X (.Assign [.Name y py] (.ListComp elt [⟨tg, iter, ifs, 0⟩] scope pos) spos) (tAsg (tLc wI g tt te (own.map (·.2))) (gName i)) (sNew i (wLc wi tgt wt we (own.map (·.2)))) :=
  ⟨ps_setLc hc hN hy hyl (sw_true hk hyl hl hq) hi.pe (blkOk_by ok) (fun s H C cl fp => (hg s H C cl fp).pe) (fun s H C cl fp => (ht s H C cl fp).pe) (fun s H C cl fp => (he s H C cl fp).pe) hs, so_new (so_lc hi.so hg.one.so hv ht.one.so he.one.so)⟩
theorem y_asgLc (i : Nat) (own : List (Str × Nat)) (hc : X.calm = true) (hN : X.N.Nodup) (hi : PIw K X tg iter wI wi) (hg : Blk X scope fun Y => PGw K Y tg g tgt) (ht : Blk X scope fun Y => PTsw K Y ifs tt wt) (he : Blk X scope fun Y => PNw K Y elt te we)
    (hy : X.N[i]? = some y := by rfl) (hyl : X.env.scope.names.lookup y = some .local := by rfl) (hk : X.env.scope.kind = .function := by rfl) (hl : (py.line == pos.line) = true := by rfl) (hq : (scope.names.any fun (n, k) => n == y && (k == .local || k == .cell)) = false := by kernel_rfl)
    (ok : blkC X.N X.env.scope scope own = true := by kernel_rfl) (hv : ∀ i ∈ tgt.slots, i ∈ own.map (·.2) := by decide) (hs : ∀ x, foldedSetIterable iter X.env x = pure x := by intro _; rfl) :
    PSw K X (.Assign [.Name y py] (.ListComp elt [⟨tg, iter, ifs, 0⟩] scope pos) spos) (tAsg (tLc wI g tt te (own.map (·.2))) (gName i)) (sAsg i (wFz (wLc wi tgt wt we (own.map (·.2))))) :=
  ⟨(y_newLc i own hc hN hi hg ht he hy hyl hk hl hq ok hv hs).pe, so_asg (so_fz (so_lc hi.so hg.one.so hv ht.one.so he.one.so))⟩
theorem y_newDc (i : Nat) (own : List (Str × Nat)) (hc : X.calm = true) (hN : X.N.Nodup) (hi : PIw K X tg iter wI wi) (hg : Blk X scope fun Y => PGw K Y tg g tgt) (ht : Blk X scope fun Y => PTsw K Y ifs tt wt) (hkx : Blk X scope fun Y => PEw K Y kx tk wk) (he : Blk X scope fun Y => PNw K Y vx te we)
    (hy : X.N[i]? = some y := by rfl) (hyl : X.env.scope.names.lookup y = some .local := by rfl) (hk : X.env.scope.kind = .function := by rfl) (hl : (py.line == pos.line) = true := by rfl) (hq : (scope.names.any fun (n, k) => n == y && (k == .local || k == .cell)) = false := by kernel_rfl)
    (ok : blkC X.N X.env.scope scope own = true := by kernel_rfl) (hv : ∀ i ∈ tgt.slots, i ∈ own.map (·.2) := by decide) (hs : ∀ x, foldedSetIterable iter X.env x = pure x := by intro _; rfl) :
    PSw K X (.Assign [.Name y py] (.DictComp kx vx [⟨tg, iter, ifs, 0⟩] scope pos) spos) (tAsg (tDc wI g tt tk te (own.map (·.2))) (gName i)) (sNew i (wDc wi tgt wt wk we (own.map (·.2)))) :=
  ⟨ps_setDc hc hN hy hyl (sw_trueD hk hyl hl hq) hi.pe (blkOk_by ok) (fun s H C cl fp => (hg s H C cl fp).pe) (fun s H C cl fp => (ht s H C cl fp).pe) (fun s H C cl fp => (hkx s H C cl fp).pe) (fun s H C cl fp => (he s H C cl fp).pe) hs, so_new (so_dc hi.so hg.one.so hv ht.one.so hkx.one.so he.one.so)⟩
theorem y_asgDc (i : Nat) (own : List (Str × Nat)) (hc : X.calm = true) (hN : X.N.Nodup) (hi : PIw K X tg iter wI wi) (hg : Blk X scope fun Y => PGw K Y tg g tgt) (ht : Blk X scope fun Y => PTsw K Y ifs tt wt) (hkx : Blk X scope fun Y => PEw K Y kx tk wk) (he : Blk X scope fun Y => PNw K Y vx te we)
    (hy : X.N[i]? = some y := by rfl) (hyl : X.env.scope.names.lookup y = some .local := by rfl) (hk : X.env.scope.kind = .function := by rfl) (hl : (py.line == pos.line) = true := by rfl) (hq : (scope.names.any fun (n, k) => n == y && (k == .local || k == .cell)) = false := by kernel_rfl)
    (ok : blkC X.N X.env.scope scope own = true := by kernel_rfl) (hv : ∀ i ∈ tgt.slots, i ∈ own.map (·.2) := by decide) (hs : ∀ x, foldedSetIterable iter X.env x = pure x := by intro _; rfl) :
    PSw K X (.Assign [.Name y py] (.DictComp kx vx [⟨tg, iter, ifs, 0⟩] scope pos) spos) (tAsg (tDc wI g tt tk te (own.map (·.2))) (gName i)) (sAsg i (wFz (wDc wi tgt wt wk we (own.map (·.2))))) :=
  ⟨(y_newDc i own hc hN hi hg ht hkx he hy hyl hk hl hq ok hv hs).pe, so_asg (so_fz (so_dc hi.so hg.one.so hv ht.one.so hkx.one.so he.one.so))⟩
theorem y_tgt (h : PEw K X e te we) (hg : PGw K X tg g tgt) (hs : swapsWithSole [tg] e spos.line X.env = pure false := by rfl) (hw : swappedStores [tg] e X.env = pure none := by rfl) (ha : (assignEach [tg] X.env).map (·.2) = [assign tg X.env] := by rfl) : PSw K X (.Assign [tg] e spos) (tAsg te g) (sAsgT tgt we) := ⟨ps_asg h.pe hg.pe hs hw ha, so_asgT h.so hg.so⟩
theorem y_set (i : Nat) {k : Expr} {px : Pos} (hu : X.A.units + 64 < cLine) (hk : PEw K X k tk wk) (h : PEw K X e te we) (hi : X.N[i]? = some y := by rfl) (hv : Vis X.env.scope y := by first | exact Or.inl rfl | exact Or.inr (Or.inl rfl) | exact Or.inr (Or.inr rfl)) (hd : (y == ("__debug__" : Str)) = false := by decide) (hcd : (y == ("__classdict__" : Str)) = false := by decide)
    (ha : ∀ v, assign (.Subscript (.Name y px) k pos) X.env v = (do let ov ← holding [v] (eval (.Name y px) X.env); let iv ← holding [v, ov] (eval k X.env); standAt pos; holding [v, ov, iv] (setItem ov iv v); release [v, ov, iv] []) := by intro _; rfl)
    (hs : swapsWithSole [.Subscript (.Name y px) k pos] e spos.line X.env = pure false := by rfl) (hw : swappedStores [.Subscript (.Name y px) k pos] e X.env = pure none := by rfl) (hb : (assignEach [.Subscript (.Name y px) k pos] X.env).map (·.2) = [assign (.Subscript (.Name y px) k pos) X.env] := by rfl) :
    PSw K X (.Assign [.Subscript (.Name y px) k pos] e spos) (tAsg te (gSub (tVar i) tk rSetA)) (sSet i wk we) := ⟨ps_asg h.pe (pg_sub (pe_var hi hv hd hcd) hk.pe (set_any (hu1 hu)) ha) hs hw hb, so_set hk.so h.so⟩
theorem y_set2 (i : Nat) {k j : Expr} {tj : TE} {wj : EW} {px pk : Pos} (hK : X.K = K) (hu : X.A.units + 64 < cLine) (hk : PEw K X k tk wk) (hj : PEw K X j tj wj) (h : PEw K X e te we) (hi : X.N[i]? = some y := by rfl) (hv : Vis X.env.scope y := by first | exact Or.inl rfl | exact Or.inr (Or.inl rfl) | exact Or.inr (Or.inr rfl)) (hd : (y == ("__debug__" : Str)) = false := by decide) (hcd : (y == ("__classdict__" : Str)) = false := by decide)
    (hp : PlainIx k := by exact fun _ _ => rfl)
    (ha : ∀ v, assign (.Subscript (.Subscript (.Name y px) k pk) j pos) X.env v = (do let ov ← holding [v] (eval (.Subscript (.Name y px) k pk) X.env); let iv ← holding [v, ov] (eval j X.env); standAt pos; holding [v, ov, iv] (setItem ov iv v); release [v, ov, iv] []) := by intro _; rfl)
    (hs : swapsWithSole [.Subscript (.Subscript (.Name y px) k pk) j pos] e spos.line X.env = pure false := by rfl) (hw : swappedStores [.Subscript (.Subscript (.Name y px) k pk) j pos] e X.env = pure none := by rfl) (hb : (assignEach [.Subscript (.Subscript (.Name y px) k pk) j pos] X.env).map (·.2) = [assign (.Subscript (.Subscript (.Name y px) k pk) j pos) X.env] := by rfl) :
    PSw K X (.Assign [.Subscript (.Subscript (.Name y px) k pk) j pos] e spos) (tAsg te (gSub (tOp (rGetA K) (tVar i) tk) tj rSetA)) (sSet2 i wk wj we) := by subst hK; exact ⟨ps_asg h.pe (pg_sub (pe_ix (ix_any (hu1 hu)) (pe_var hi hv hd hcd) hk.pe hp) hj.pe (set_any (hu1 hu)) ha) hs hw hb, so_set2 hk.so hj.so h.so⟩
theorem y_aug (i : Nat) (hN : X.N.Nodup) (h : PEw K X e te we) (hi : X.N[i]? = some y := by rfl) (hx : L2.Loc X.env.scope y := by first | exact Or.inl rfl | exact Or.inr rfl) (hf : X.fn y = true ∨ X.env.scope.names.lookup y = some .local := by first | exact .inl rfl | exact .inr rfl | assumption) :
    PSw K X (.AugAssign (.Name y py) .Add e spos) (tAug i te (ipI fun i j => i + j)) (sAugI i (fun i j => i + j) we) := ⟨ps_aug hN hi hx h.pe ip_add hf, so_augI h.so⟩
theorem y_augS (i : Nat) (hN : X.N.Nodup) (h : PEw K X e te we) (hi : X.N[i]? = some y := by rfl) (hx : L2.Loc X.env.scope y := by first | exact Or.inl rfl | exact Or.inr rfl) (hf : X.fn y = true ∨ X.env.scope.names.lookup y = some .local := by first | exact .inl rfl | exact .inr rfl | assumption) :
    PSw K X (.AugAssign (.Name y py) .Sub e spos) (tAug i te (ipI fun i j => i - j)) (sAugI i (fun i j => i - j) we) := ⟨ps_aug hN hi hx h.pe ip_sub hf, so_augI h.so⟩
theorem y_daug (i : Nat) {k : Expr} {px : Pos} (hu : X.A.units + 64 < cLine) (hk : PEw K X k tk wk) (h : PEw K X e te we) (hi : X.N[i]? = some y := by rfl) (hv : Vis X.env.scope y := by first | exact Or.inl rfl | exact Or.inr (Or.inl rfl) | exact Or.inr (Or.inr rfl)) (hd : (y == ("__debug__" : Str)) = false := by decide) (hcd : (y == ("__classdict__" : Str)) = false := by decide)
    (ha : ∀ ov iv new, augStore k ov iv new = (do holding [new, ov, iv] (setItem ov iv new); release [new, ov, iv] []; pure .next) := by intro _ _ _; rfl) :
    PSw K X (.AugAssign (.Subscript (.Name y px) k pos) .Add e spos) (L2.sDAug (tVar i) tk te L2.rAdd) (sDAug i (fun i j => i + j) wk we) := ⟨ps_daug (hu1 hu) (pe_var hi hv hd hcd) hk.pe h.pe in_add ha, so_daug (fun _ _ _ _ z => z) hk.so h.so⟩
theorem y_daugS (i : Nat) {k : Expr} {px : Pos} (hu : X.A.units + 64 < cLine) (hk : PEw K X k tk wk) (h : PEw K X e te we) (hi : X.N[i]? = some y := by rfl) (hv : Vis X.env.scope y := by first | exact Or.inl rfl | exact Or.inr (Or.inl rfl) | exact Or.inr (Or.inr rfl)) (hd : (y == ("__debug__" : Str)) = false := by decide) (hcd : (y == ("__classdict__" : Str)) = false := by decide)
    (ha : ∀ ov iv new, augStore k ov iv new = (do holding [new, ov, iv] (setItem ov iv new); release [new, ov, iv] []; pure .next) := by intro _ _ _; rfl) :
    PSw K X (.AugAssign (.Subscript (.Name y px) k pos) .Sub e spos) (L2.sDAug (tVar i) tk te L2.rSub) (sDAug i (fun i j => i - j) wk we) := ⟨ps_daug (hu1 hu) (pe_var hi hv hd hcd) hk.pe h.pe in_sub ha, so_daug (fun _ _ _ _ z => z) hk.so h.so⟩
theorem y_ret (h : PEw K X e te we) : PSw K X (.Return (some e) pos) (tRet te) (sRet we) := ⟨ps_ret h.pe, so_ret h.so⟩
theorem y_retV (h : PNw K X e te we) : PSw K X (.Return (some e) pos) (tRet te) (sRetV we) := ⟨ps_ret h.pe, so_retV h.so⟩
theorem y_retN : PSw K X (.Return none pos) tRetN sRetN := ⟨ps_retN, so_retN⟩
theorem y_drop (h : PEw K X e te we) (hs : swapsWith e none spos.line X.env = pure false := by rfl) : PSw K X (.Expr e spos) (tDrop te) (sDrop we) := ⟨ps_expr h.pe hs, so_drop h.so⟩
theorem y_if {ss' : List Stmt} (hc : PTw K X c tt wt) (h1 : PSsw K X ss t w) (h2 : PSsw K X ss' t' w') : PSw K X (.If c ss ss' pos) (tIfS tt t t') (sIf wt w w') := ⟨ps_if hc.pe h1.pe h2.pe, so_ifS hc.so h1.so h2.so⟩
theorem y_for (hp : PassesOwn (model X.prog X.w) X.A X.env X.xe) (hc : X.calm = true) (hi : PIw K X tg iter wI wi) (hg : PGw K X tg g tgt) (hb : PSsw K X ss t w) (hs : ∀ x, foldedSetIterable iter X.env x = pure x := by intro _; rfl) : PSw K X (.For tg iter ss [] pos) (tFor wI g t) (sFor wi tgt w) := ⟨ps_for hp hc hi.pe hg.pe hb.pe hs, so_for hi.so hg.so hb.so⟩
theorem y_while (hp : PassesOwn (model X.prog X.w) X.A X.env X.xe) (hc : PTw K X c tt wt) (hb : PSsw K X ss t w) : PSw K X (.While c ss [] pos) (tWhile tt t) (sWhile wt w) := ⟨ps_while hp hc.pe hb.pe, so_while hc.so hb.so⟩
theorem y_brk : PSw K X (.Break pos) tBreak sBrk := ⟨ps_break, so_brk⟩
theorem y_cnt : PSw K X (.Continue pos) tCont sCnt := ⟨ps_continue, so_cnt⟩
theorem y_pass : PSw K X (.Pass pos) tNext sNext := ⟨ps_pass, so_next⟩
theorem y_never : PSw K X s tNever sNever := ⟨ps_never, so_never⟩
section
variable {x : Str} {px : Pos} {cpos : Pos}
theorem y_app (i : Nat) (hK : X.K = K) (h : PEw K X e te we) (hi : X.N[i]? = some y := by rfl) (hv : Vis X.env.scope y := by first | exact Or.inl rfl | exact Or.inr (Or.inl rfl) | exact Or.inr (Or.inr rfl)) (hd : (y == ("__debug__" : Str)) = false := by decide) (hcd : (y == ("__classdict__" : Str)) = false := by decide)
    (hbase : attributeBase (.Name y px) "append" X.env (eval (.Name y px) X.env) = eval (.Name y px) X.env := by rfl) (hfew : ((backTo cpos (starEach [e] X.env)).all (fun x => !x.1) && (backToKw cpos (keywordEach [] X.env)).all (fun x => x.1.isSome) && decide (([e] : List Expr).length + ([] : List Keyword).length + (if ([] : List Keyword).isEmpty then 0 else 1) < 30)) = true := by rfl)
    (hline : (apos.endLine == cpos.line) = true := by rfl) (hs : starEach [e] X.env = (false, eval e X.env) :: starEach [] X.env := by rfl) (hplain : (backTo cpos (starEach [] X.env)).any (·.1) = false := by rfl) (hsw : swapsWith (.Call (.Attribute (.Name y px) "append" apos) [e] [] cpos) none spos.line X.env = pure false := by rfl) :
    PSw K X (.Expr (.Call (.Attribute (.Name y px) "append" apos) [e] [] cpos) spos) (tDrop (tBM K "list" rAppend (tVar i) (tCons te tNil))) (sApp i we) := by
  subst hK
  exact ⟨ps_expr (pe_bm PySem.F.plainAttrs_list PySem.F.slot_list_append PySem.F.type_list_append mt_append (pe_var hi hv hd hcd) (pa_cons h.pe pa_nil hs) hbase hfew hline hs hplain) hsw, so_app h.so⟩
theorem y_ext (i : Nat) (hK : X.K = K) (h : PEw K X e te we) (hi : X.N[i]? = some y := by rfl) (hv : Vis X.env.scope y := by first | exact Or.inl rfl | exact Or.inr (Or.inl rfl) | exact Or.inr (Or.inr rfl)) (hd : (y == ("__debug__" : Str)) = false := by decide) (hcd : (y == ("__classdict__" : Str)) = false := by decide)
    (hbase : attributeBase (.Name y px) "extend" X.env (eval (.Name y px) X.env) = eval (.Name y px) X.env := by rfl) (hfew : ((backTo cpos (starEach [e] X.env)).all (fun x => !x.1) && (backToKw cpos (keywordEach [] X.env)).all (fun x => x.1.isSome) && decide (([e] : List Expr).length + ([] : List Keyword).length + (if ([] : List Keyword).isEmpty then 0 else 1) < 30)) = true := by rfl)
    (hline : (apos.endLine == cpos.line) = true := by rfl) (hs : starEach [e] X.env = (false, eval e X.env) :: starEach [] X.env := by rfl) (hplain : (backTo cpos (starEach [] X.env)).any (·.1) = false := by rfl) (hsw : swapsWith (.Call (.Attribute (.Name y px) "extend" apos) [e] [] cpos) none spos.line X.env = pure false := by rfl) :
    PSw K X (.Expr (.Call (.Attribute (.Name y px) "extend" apos) [e] [] cpos) spos) (tDrop (tBM K "list" rExtend (tVar i) (tCons te tNil))) (sExt i we) := by
  subst hK
  exact ⟨ps_expr (pe_bm PySem.F.plainAttrs_list PySem.F.slot_list_extend PySem.F.type_list_extend mt_extend (pe_var hi hv hd hcd) (pa_cons h.pe pa_nil hs) hbase hfew hline hs hplain) hsw, so_ext h.so⟩
theorem y_app2 (i : Nat) {k : Expr} {pk : Pos} (hK : X.K = K) (hu : X.A.units + 64 < cLine) (hk : PEw K X k tk wk) (h : PEw K X e te we) (hi : X.N[i]? = some y := by rfl) (hv : Vis X.env.scope y := by first | exact Or.inl rfl | exact Or.inr (Or.inl rfl) | exact Or.inr (Or.inr rfl)) (hd : (y == ("__debug__" : Str)) = false := by decide) (hcd : (y == ("__classdict__" : Str)) = false := by decide) (hp : PlainIx k := by exact fun _ _ => rfl)
    (hbase : attributeBase (.Subscript (.Name y px) k pk) "append" X.env (eval (.Subscript (.Name y px) k pk) X.env) = eval (.Subscript (.Name y px) k pk) X.env := by rfl) (hfew : ((backTo cpos (starEach [e] X.env)).all (fun x => !x.1) && (backToKw cpos (keywordEach [] X.env)).all (fun x => x.1.isSome) && decide (([e] : List Expr).length + ([] : List Keyword).length + (if ([] : List Keyword).isEmpty then 0 else 1) < 30)) = true := by rfl)
    (hline : (apos.endLine == cpos.line) = true := by rfl) (hs : starEach [e] X.env = (false, eval e X.env) :: starEach [] X.env := by rfl) (hplain : (backTo cpos (starEach [] X.env)).any (·.1) = false := by rfl) (hsw : swapsWith (.Call (.Attribute (.Subscript (.Name y px) k pk) "append" apos) [e] [] cpos) none spos.line X.env = pure false := by rfl) :
    PSw K X (.Expr (.Call (.Attribute (.Subscript (.Name y px) k pk) "append" apos) [e] [] cpos) spos) (tDrop (tBM K "list" rAppend (tOp (rGetA K) (tVar i) tk) (tCons te tNil))) (sApp2 i wk we) := by
  subst hK
  exact ⟨ps_expr (pe_bm PySem.F.plainAttrs_list PySem.F.slot_list_append PySem.F.type_list_append mt_append (pe_ix (ix_any (hu1 hu)) (pe_var hi hv hd hcd) hk.pe hp) (pa_cons h.pe pa_nil hs) hbase hfew hline hs hplain) hsw, so_app2 hk.so h.so⟩
theorem y_sdApp (i : Nat) {k : Expr} {al cl ll : Pos} (hK : X.K = K) (hk : PEw K X k tk wk) (h : PEw K X e te we) (hi : X.N[i]? = some y := by rfl) (hv : Vis X.env.scope y := by first | exact Or.inl rfl | exact Or.inr (Or.inl rfl) | exact Or.inr (Or.inr rfl)) (hd : (y == ("__debug__" : Str)) = false := by decide) (hcd : (y == ("__classdict__" : Str)) = false := by decide)
    (m : M2 X (.Name y px) "setdefault" al k (.List [] ll) cl := by exact ⟨rfl, rfl, rfl, rfl⟩)
    (hbase : attributeBase (.Call (.Attribute (.Name y px) "setdefault" al) [k, .List [] ll] [] cl) "append" X.env (eval (.Call (.Attribute (.Name y px) "setdefault" al) [k, .List [] ll] [] cl) X.env) = eval (.Call (.Attribute (.Name y px) "setdefault" al) [k, .List [] ll] [] cl) X.env := by rfl) (hfew : ((backTo cpos (starEach [e] X.env)).all (fun x => !x.1) && (backToKw cpos (keywordEach [] X.env)).all (fun x => x.1.isSome) && decide (([e] : List Expr).length + ([] : List Keyword).length + (if ([] : List Keyword).isEmpty then 0 else 1) < 30)) = true := by rfl)
    (hline : (apos.endLine == cpos.line) = true := by rfl) (hs : starEach [e] X.env = (false, eval e X.env) :: starEach [] X.env := by rfl) (hplain : (backTo cpos (starEach [] X.env)).any (·.1) = false := by rfl) (hsw : swapsWith (.Call (.Attribute (.Call (.Attribute (.Name y px) "setdefault" al) [k, .List [] ll] [] cl) "append" apos) [e] [] cpos) none spos.line X.env = pure false := by rfl) :
    PSw K X (.Expr (.Call (.Attribute (.Call (.Attribute (.Name y px) "setdefault" al) [k, .List [] ll] [] cl) "append" apos) [e] [] cpos) spos) (tDrop (tBM K "list" rAppend (tDSetd (tVar i) tk (tLst tNil)) (tCons te tNil))) (sSdApp i wk we) := by
  subst hK
  exact ⟨ps_expr (pe_bm PySem.F.plainAttrs_list PySem.F.slot_list_append PySem.F.type_list_append mt_append (pe_dsetd (pe_var hi hv hd hcd) hk.pe (pe_lst pa_nil) m) (pa_cons h.pe pa_nil hs) hbase hfew hline hs hplain) hsw, so_sdApp hk.so h.so⟩
theorem y_appPop (i j : Nat) {z : Str} {pz ap cp : Pos} (hK : X.K = K) (hij : i ≠ j) (h : PEw K X e te we) (hi : X.N[i]? = some y := by rfl) (hv : Vis X.env.scope y := by first | exact Or.inl rfl | exact Or.inr (Or.inl rfl) | exact Or.inr (Or.inr rfl)) (hd : (y == ("__debug__" : Str)) = false := by decide) (hcd : (y == ("__classdict__" : Str)) = false := by decide)
    (hi' : X.N[j]? = some z := by rfl) (hv' : Vis X.env.scope z := by first | exact Or.inl rfl | exact Or.inr (Or.inl rfl) | exact Or.inr (Or.inr rfl)) (hd' : (z == ("__debug__" : Str)) = false := by decide) (hcd' : (z == ("__classdict__" : Str)) = false := by decide)
    (hbase' : attributeBase (.Name z pz) "pop" X.env (eval (.Name z pz) X.env) = eval (.Name z pz) X.env := by rfl) (hfew' : ((backTo cp (starEach [e] X.env)).all (fun x => !x.1) && (backToKw cp (keywordEach [] X.env)).all (fun x => x.1.isSome) && decide (([e] : List Expr).length + ([] : List Keyword).length + (if ([] : List Keyword).isEmpty then 0 else 1) < 30)) = true := by rfl)
    (hline' : (ap.endLine == cp.line) = true := by rfl) (hs' : starEach [e] X.env = (false, eval e X.env) :: starEach [] X.env := by rfl) (hplain' : (backTo cp (starEach [] X.env)).any (·.1) = false := by rfl)
    (hbase : attributeBase (.Name y px) "append" X.env (eval (.Name y px) X.env) = eval (.Name y px) X.env := by rfl) (hfew : ((backTo cpos (starEach [.Call (.Attribute (.Name z pz) "pop" ap) [e] [] cp] X.env)).all (fun x => !x.1) && (backToKw cpos (keywordEach [] X.env)).all (fun x => x.1.isSome) && decide (([.Call (.Attribute (.Name z pz) "pop" ap) [e] [] cp] : List Expr).length + ([] : List Keyword).length + (if ([] : List Keyword).isEmpty then 0 else 1) < 30)) = true := by rfl)
    (hline : (apos.endLine == cpos.line) = true := by rfl) (hs : starEach [.Call (.Attribute (.Name z pz) "pop" ap) [e] [] cp] X.env = (false, eval (.Call (.Attribute (.Name z pz) "pop" ap) [e] [] cp) X.env) :: starEach [] X.env := by rfl) (hplain : (backTo cpos (starEach [] X.env)).any (·.1) = false := by rfl) (hsw : swapsWith (.Call (.Attribute (.Name y px) "append" apos) [.Call (.Attribute (.Name z pz) "pop" ap) [e] [] cp] [] cpos) none spos.line X.env = pure false := by rfl) :
    PSw K X (.Expr (.Call (.Attribute (.Name y px) "append" apos) [.Call (.Attribute (.Name z pz) "pop" ap) [e] [] cp] [] cpos) spos) (tDrop (tBM K "list" rAppend (tVar i) (tCons (tBM K "list" rPopAt (tVar j) (tCons te tNil)) tNil))) (sAppPop i j we) := by
  subst hK
  exact ⟨ps_expr (pe_bm PySem.F.plainAttrs_list PySem.F.slot_list_append PySem.F.type_list_append mt_append (pe_var hi hv hd hcd) (pa_cons (pe_bm PySem.F.plainAttrs_list PySem.F.slot_list_pop PySem.F.type_list_pop mt_popAt (pe_var hi' hv' hd' hcd') (pa_cons h.pe pa_nil hs') hbase' hfew' hline' hs' hplain') pa_nil hs) hbase hfew hline hs hplain) hsw, so_appPop hij h.so⟩
end
end
end
end Pw
namespace Pw
open PySem PySem.Spec PyProof.Rows L2

/-! ### plain readings, made easy to use -/
section
variable {Q : T → Prop} {env : Env} {i j : Int} {ds es : List D} {ts : List T} {a c : Int} {x y : Str} {n : Nat} {α β : Type}
theorem atI_get {xs : List α} {n : Nat} : L2.atI xs (n : Int) = xs[n]? := by
  unfold L2.atI ixN
  rw [if_pos (by omega)]
  by_cases h : (n : Int) < xs.length
  · rw [if_pos h]; simp
  · rw [if_neg h]
    have : xs.length ≤ n := by omega
    simp [List.getElem?_eq_none this]
theorem atI_map {xs : List α} {f : α → β} {i : Int} : L2.atI (xs.map f) i = (L2.atI xs i).map f := by
  unfold L2.atI
  rw [List.length_map]
  cases ixN xs.length i <;> simp
theorem atI_lt {xs : List α} {i : Int} (h0 : 0 ≤ i) (h : i < xs.length) : L2.atI xs i = some (xs[i.toNat]'(by omega)) := by
  obtain ⟨n, rfl⟩ := Int.eq_ofNat_of_zero_le h0
  rw [atI_get]
  exact List.getElem?_eq_getElem (by simpa using h)
@[simp] theorem atI_0 {u : α} {us : List α} : L2.atI (u :: us) 0 = some u := atI_get (n := 0)
@[simp] theorem atI_1 {u v : α} {us : List α} : L2.atI (u :: v :: us) 1 = some v := atI_get (n := 1)
@[simp] theorem atI_2 {u v w : α} {us : List α} : L2.atI (u :: v :: w :: us) 2 = some w := atI_get (n := 2)
@[simp] theorem atI_3 {u v w z : α} {us : List α} : L2.atI (u :: v :: w :: z :: us) 3 = some z := atI_get (n := 3)
@[simp] theorem atI_4 {u v w z k : α} {us : List α} : L2.atI (u :: v :: w :: z :: k :: us) 4 = some k := atI_get (n := 4)
theorem fGet_tup : fGet (.st (.tup ds)) (.st (.int i)) Q ↔ ∃ u, L2.atI ds i = some u ∧ Q (.st u) := by
  unfold fGet fIx
  constructor
  · rintro (⟨i', e, (⟨ts, u, h1, h2, h3⟩ | ⟨z, c, h1, _⟩)⟩ | ⟨k, u, _, h2, _⟩)
    · cases e
      simp only [T.seq?, Option.some.injEq] at h1
      subst h1
      rw [atI_map, Option.map_eq_some_iff] at h2
      obtain ⟨d, h2, rfl⟩ := h2
      exact ⟨d, h2, h3⟩
    · cases h1
    · simp [T.get?] at h2
  · rintro ⟨u, h1, h2⟩
    exact .inl ⟨i, rfl, .inl ⟨_, .st u, rfl, by rw [atI_map, h1]; rfl, h2⟩⟩
theorem fGet_lst : fGet (.st (.lst ds)) (.st (.int i)) Q ↔ ∃ u, L2.atI ds i = some u ∧ Q (.st u) := by
  unfold fGet fIx
  constructor
  · rintro (⟨i', e, (⟨ts, u, h1, h2, h3⟩ | ⟨z, c, h1, _⟩)⟩ | ⟨k, u, _, h2, _⟩)
    · cases e
      simp only [T.seq?, Option.some.injEq] at h1
      subst h1
      rw [atI_map, Option.map_eq_some_iff] at h2
      obtain ⟨d, h2, rfl⟩ := h2
      exact ⟨d, h2, h3⟩
    · cases h1
    · simp [T.get?] at h2
  · rintro ⟨u, h1, h2⟩
    exact .inl ⟨i, rfl, .inl ⟨_, .st u, rfl, by rw [atI_map, h1]; rfl, h2⟩⟩
theorem fGet_vl : fGet (.vl ts) (.st (.int i)) Q ↔ ∃ u, L2.atI ts i = some u ∧ Q u := by
  unfold fGet fIx
  constructor
  · rintro (⟨i', e, (⟨ts, u, h1, h2, h3⟩ | ⟨z, c, h1, _⟩)⟩ | ⟨k, u, _, h2, _⟩)
    · cases e
      simp only [T.seq?, Option.some.injEq] at h1
      subst h1
      exact ⟨u, h2, h3⟩
    · cases h1
    · simp [T.get?] at h2
  · rintro ⟨u, h1, h2⟩
    exact .inl ⟨i, rfl, .inl ⟨_, u, rfl, h1, h2⟩⟩
theorem fGet_str : fGet (.st (.str x)) (.st (.int i)) Q ↔ ∃ c, x.length ≤ sizeLine ∧ L2.atI x.cps.toList i = some c ∧ Q (.st (.str ⟨#[c]⟩)) := by
  unfold fGet fIx
  constructor
  · rintro (⟨i', e, (⟨ts, u, h1, h2, h3⟩ | ⟨z, c, h1, h2, h3, h4⟩)⟩ | ⟨k, u, _, h2, _⟩)
    · simp [T.seq?] at h1
    · cases e; cases h1; exact ⟨c, h2, h3, h4⟩
    · simp [T.get?] at h2
  · rintro ⟨c, h1, h2, h3⟩
    exact .inl ⟨i, rfl, .inr ⟨x, c, rfl, h1, h2, h3⟩⟩
theorem fGet_dk {es : List (Key × D)} {k : D} : fGet (.st (.dk es)) (.st k) Q ↔ ∃ key u, kK k = some key ∧ look es key = some u ∧ Q (.st u) := by
  unfold fGet fIx
  constructor
  · rintro (⟨i', e, (⟨ts, u, h1, h2, h3⟩ | ⟨z, c, h1, h2, h3, h4⟩)⟩ | ⟨k', u, e, h2, h3⟩)
    · simp [T.seq?] at h1
    · cases h1
    · cases e
      simp only [T.get?, Option.map_eq_some_iff] at h2
      obtain ⟨key, e1, d, e2, rfl⟩ := h2
      exact ⟨key, d, e1, e2, h3⟩
  · rintro ⟨key, u, h1, h2, h3⟩
    exact .inr ⟨k, .st u, rfl, by simp [T.get?, h1, h2], h3⟩
theorem fGet_vk {es : List (Key × T)} {k : D} : fGet (.vk es) (.st k) Q ↔ ∃ key u, kK k = some key ∧ look es key = some u ∧ Q u := by
  unfold fGet fIx
  constructor
  · rintro (⟨i', e, (⟨ts, u, h1, h2, h3⟩ | ⟨z, c, h1, h2, h3, h4⟩)⟩ | ⟨k', u, e, h2, h3⟩)
    · simp [T.seq?] at h1
    · cases h1
    · cases e
      simp only [T.get?, Option.map_eq_some_iff] at h2
      obtain ⟨key, e1, e2⟩ := h2
      exact ⟨key, u, e1, e2, h3⟩
  · rintro ⟨key, u, h1, h2, h3⟩
    exact .inr ⟨k, u, rfl, by simp [T.get?, h1, h2], h3⟩
theorem fII_st {C : Int → Int → Prop} {g : Int → Int → D} : fII C g (.st (.int a)) (.st (.int c)) Q ↔ C a c ∧ Q (.st (g a c)) := by
  unfold fII
  constructor
  · rintro ⟨i, j, e1, e2, h⟩
    cases e1; cases e2; exact h
  · intro h
    exact ⟨a, c, rfl, rfl, h⟩
theorem fAdd_int : fAdd (.st (.int a)) (.st (.int c)) Q ↔ Q (.st (.int (a + c))) := Iff.rfl
theorem fAdd_str : fAdd (.st (.str x)) (.st (.str y)) Q ↔ x.length + y.length ≤ sizeLine ∧ Q (.st (.str (x ++ y))) := Iff.rfl
theorem fAdd_lst : fAdd (.st (.lst ds)) (.st (.lst es)) Q ↔ ds.length + es.length ≤ sizeLine ∧ Q (.st (.lst (ds ++ es))) := by
  unfold fAdd
  simp only [dl_lst, Option.some.injEq]
  constructor
  · rintro ⟨_, _, rfl, rfl, h⟩; exact h
  · intro h; exact ⟨_, _, rfl, rfl, h⟩
theorem fAdd_lv : fAdd (.st (.lst ds)) (.vl (es.map .st)) Q ↔ ds.length + es.length ≤ sizeLine ∧ Q (.st (.lst (ds ++ es))) := by
  unfold fAdd
  simp only [dl_lst, dl_vl, Option.some.injEq]
  constructor
  · rintro ⟨_, _, rfl, rfl, h⟩; exact h
  · intro h; exact ⟨_, _, rfl, rfl, h⟩
theorem eqA_aux {x y : T} {u v : V} (hx : x.fl? = some u) (hy : y.fl? = some v) (hs : scal u v = true) (hd : ∀ d e, x = .st d → y = .st e → PyData.eqv d.py e.py = decide (u = v)) : fEqA x y Q ↔ Q (.st (.bl (decide (u = v)))) := by
  unfold fEqA fEq fEqD
  constructor
  · rintro (⟨u', v', h1, h2, _, h⟩ | ⟨d, e, rfl, rfl, _, _, _, _, h⟩)
    · rw [hx] at h1; rw [hy] at h2; cases h1; cases h2; exact h
    · rw [← hd d e rfl rfl]; exact h
  · intro h
    exact .inl ⟨u, v, hx, hy, hs, h⟩
theorem neA_aux {x y : T} {u v : V} (hx : x.fl? = some u) (hy : y.fl? = some v) (hs : scal u v = true) (hd : ∀ d e, x = .st d → y = .st e → PyData.eqv d.py e.py = decide (u = v)) : fNeA x y Q ↔ Q (.st (.bl (!decide (u = v)))) := by
  unfold fNeA fNe fEqD
  constructor
  · rintro (⟨u', v', h1, h2, _, h⟩ | ⟨d, e, rfl, rfl, _, _, _, _, h⟩)
    · rw [hx] at h1; rw [hy] at h2; cases h1; cases h2; exact h
    · rw [← hd d e rfl rfl]; exact h
  · intro h
    exact .inl ⟨u, v, hx, hy, hs, h⟩
theorem fEqA_int : fEqA (.st (.int a)) (.st (.int c)) Q ↔ Q (.st (.bl (decide (a = c)))) := by
  rw [eqA_aux (u := .int a) (v := .int c) rfl rfl rfl]
  · simp
  · intro d e h1 h2; cases h1; cases h2
    simp only [D.py, PyData.eqv, V.int.injEq]
    exact (Bool.beq_eq_decide_eq a c)
theorem fEqA_str : fEqA (.st (.str x)) (.st (.str y)) Q ↔ Q (.st (.bl (decide (x = y)))) := by
  rw [eqA_aux (u := .str x) (v := .str y) rfl rfl rfl]
  · simp
  · intro d e h1 h2; cases h1; cases h2
    simp only [D.py, PyData.eqv, V.str.injEq]
    by_cases h : x = y
    · subst h; simp
    · simp [h]
theorem fNotN_non {Q : T → Prop} : fNotN (.st .non) (.st .non) Q ↔ Q (.st (.bl false)) := by
  unfold fNotN fIs
  constructor
  · rintro ⟨_, (⟨_, h⟩ | ⟨n, _⟩)⟩
    · exact h
    · exact absurd rfl (n _ rfl)
  · intro h; exact ⟨rfl, .inl ⟨rfl, h⟩⟩
theorem fNotN_int {Q : T → Prop} : fNotN (.st (.int a)) (.st .non) Q ↔ Q (.st (.bl true)) := by
  unfold fNotN fIs
  constructor
  · rintro ⟨_, (⟨e, h⟩ | ⟨n, h⟩)⟩
    · cases e
    · exact h
  · intro h; exact ⟨rfl, .inr ⟨fun d e => by cases e; simp, h⟩⟩
theorem fIsN_non {Q : T → Prop} : fIsN (.st .non) (.st .non) Q ↔ Q (.st (.bl true)) := by
  unfold fIsN fIs
  constructor
  · rintro ⟨_, (⟨_, h⟩ | ⟨n, _⟩)⟩
    · exact h
    · exact absurd rfl (n _ rfl)
  · intro h; exact ⟨rfl, .inl ⟨rfl, h⟩⟩
theorem fIsN_int {Q : T → Prop} : fIsN (.st (.int a)) (.st .non) Q ↔ Q (.st (.bl false)) := by
  unfold fIsN fIs
  constructor
  · rintro ⟨_, (⟨e, h⟩ | ⟨n, h⟩)⟩
    · cases e
    · exact h
  · intro h; exact ⟨rfl, .inr ⟨fun d e => by cases e; simp, h⟩⟩
theorem fLen_lst : fLen [.st (.lst ds)] Q ↔ Q (.st (.int ds.length)) := by
  unfold fLen
  constructor
  · rintro ⟨t, e, (⟨ms, h1, h2⟩ | ⟨x, h1, _⟩)⟩
    · cases e; cases h1; simpa using h2
    · cases e; cases h1
  · intro h; exact ⟨_, rfl, .inl ⟨_, rfl, by simpa using h⟩⟩
theorem fLen_tup : fLen [.st (.tup ds)] Q ↔ Q (.st (.int ds.length)) := by
  unfold fLen
  constructor
  · rintro ⟨t, e, (⟨ms, h1, h2⟩ | ⟨x, h1, _⟩)⟩
    · cases e; cases h1; simpa using h2
    · cases e; cases h1
  · intro h; exact ⟨_, rfl, .inl ⟨_, rfl, by simpa using h⟩⟩
theorem fLen_vl : fLen [.vl ts] Q ↔ Q (.st (.int ts.length)) := by
  unfold fLen
  constructor
  · rintro ⟨t, e, (⟨ms, h1, h2⟩ | ⟨x, h1, _⟩)⟩
    · cases e; cases h1; exact h2
    · cases e; cases h1
  · intro h; exact ⟨_, rfl, .inl ⟨_, rfl, h⟩⟩
theorem fLen_str : fLen [.st (.str x)] Q ↔ x.length ≤ sizeLine ∧ Q (.st (.int x.length)) := by
  unfold fLen
  constructor
  · rintro ⟨t, e, (⟨ms, h1, h2⟩ | ⟨x, h1, h⟩)⟩
    · cases e; cases h1
    · cases e; cases h1; exact h
  · intro h; exact ⟨_, rfl, .inr ⟨_, rfl, h⟩⟩
theorem fInt_int : fInt [.st (.int a)] Q ↔ Q (.st (.int a)) := by
  unfold fInt
  constructor
  · rintro (⟨i, e, h⟩ | ⟨k, e, _⟩)
    · cases e; exact h
    · cases e
  · intro h; exact .inl ⟨a, rfl, h⟩
theorem fInt_bl {k : Bool} : fInt [.st (.bl k)] Q ↔ Q (.st (.int (if k then 1 else 0))) := by
  unfold fInt
  constructor
  · rintro (⟨i, e, h⟩ | ⟨k, e, h⟩)
    · cases e
    · cases e; exact h
  · intro h; exact .inr ⟨k, rfl, h⟩
theorem fTuple_lst : fTuple [.st (.lst ds)] Q ↔ Q (.st (.tup ds)) := by
  unfold fTuple
  constructor
  · rintro ⟨t, e, (⟨ds', h1, h2⟩ | ⟨ds', h1, h2⟩)⟩
    · cases e; simp at h1; subst h1; exact h2
    · cases e; cases h1
  · intro h; exact ⟨_, rfl, .inl ⟨ds, by simp, h⟩⟩
theorem fTuple_vl : fTuple [.vl (ds.map .st)] Q ↔ Q (.st (.tup ds)) := by
  unfold fTuple
  constructor
  · rintro ⟨t, e, (⟨ds', h1, h2⟩ | ⟨ds', h1, h2⟩)⟩
    · cases e; simp at h1; subst h1; exact h2
    · cases e; cases h1
  · intro h; exact ⟨_, rfl, .inl ⟨ds, by simp, h⟩⟩
theorem fTuple_tup : fTuple [.st (.tup ds)] Q ↔ Q (.st (.tup ds)) := by
  unfold fTuple
  constructor
  · rintro ⟨t, e, (⟨ds', h1, h2⟩ | ⟨ds', h1, h2⟩)⟩
    · cases e; simp [T.dl?, T.lst?] at h1
    · cases e; cases h1; exact h2
  · intro h; exact ⟨_, rfl, .inr ⟨ds, rfl, h⟩⟩
theorem fList_tup : fList [.st (.tup ds)] Q ↔ Q (.st (.lst ds)) := by
  unfold fList
  constructor
  · rintro ⟨t, ds', e, h1, h2⟩
    cases e; simp at h1; subst h1; exact h2
  · intro h; exact ⟨_, ds, rfl, by simp, h⟩
theorem fList_lst : fList [.st (.lst ds)] Q ↔ Q (.st (.lst ds)) := by
  unfold fList
  constructor
  · rintro ⟨t, ds', e, h1, h2⟩
    cases e; simp at h1; subst h1; exact h2
  · intro h; exact ⟨_, ds, rfl, by simp, h⟩
theorem fMax_2 : fMax [.st (.int a), .st (.int c)] Q ↔ Q (.st (.int (max a c))) := by
  unfold fMax
  constructor
  · rintro (⟨i, j, e, h⟩ | ⟨i, j, k, e, h⟩ | ⟨t, ns, e, _⟩)
    · cases e; exact h
    · cases e
    · cases e
  · intro h; exact .inl ⟨a, c, rfl, h⟩
theorem fMin_2 : fMin [.st (.int a), .st (.int c)] Q ↔ Q (.st (.int (min a c))) := by
  unfold fMin
  constructor
  · rintro (⟨i, j, e, h⟩ | ⟨t, ns, e, _⟩)
    · cases e; exact h
    · cases e
  · intro h; exact .inl ⟨a, c, rfl, h⟩
theorem fMax_3 {k : Int} : fMax [.st (.int a), .st (.int c), .st (.int k)] Q ↔ Q (.st (.int (max (max a c) k))) := by
  unfold fMax
  constructor
  · rintro (⟨i, j, e, h⟩ | ⟨i, j, k, e, h⟩ | ⟨t, ns, e, _⟩)
    · cases e
    · cases e; exact h
    · cases e
  · intro h; exact .inr (.inl ⟨a, c, k, rfl, h⟩)
/-- the greatest, the least of some ints -/
def maxL : List Int → Int
  | [] => 0
  | [x] => x
  | x :: xs => max x (maxL xs)
theorem maxL_mem : ∀ {ns : List Int}, ns ≠ [] → maxL ns ∈ ns
  | [], h => absurd rfl h
  | [x], _ => .head _
  | x :: y :: r, _ => by
    have ih := maxL_mem (ns := y :: r) (by simp)
    show max x (maxL (y :: r)) ∈ _
    rcases Int.le_total x (maxL (y :: r)) with h | h
    · rw [show max x (maxL (y :: r)) = maxL (y :: r) by omega]; exact .tail _ ih
    · rw [show max x (maxL (y :: r)) = x by omega]; exact .head _
theorem le_maxL : ∀ {ns : List Int} {y : Int}, y ∈ ns → y ≤ maxL ns
  | [x], y, h => by rw [List.mem_singleton.mp h]; exact Int.le_refl _
  | x :: z :: r, y, h => by
    show y ≤ max x (maxL (z :: r))
    rcases List.mem_cons.mp h with rfl | h
    · omega
    · have := le_maxL h; omega
theorem maxL_eq {ns : List Int} {m : Int} (h1 : m ∈ ns) (h2 : ∀ y, y ∈ ns → y ≤ m) : m = maxL ns := by
  have a1 := le_maxL h1
  have a2 := h2 _ (maxL_mem (List.ne_nil_of_mem h1))
  omega
theorem fMax_lst {ns : List Int} (h : ns ≠ []) (q : Q (.st (.int (maxL ns)))) : fMax [.st (.lst (ns.map D.int))] Q :=
  .inr (.inr ⟨_, ns, rfl, by simp, List.length_pos_iff.mpr h, fun m h1 h2 => by rw [maxL_eq h1 h2]; exact q⟩)
theorem fMin_lst {ns : List Int} (h : ns ≠ []) (q : ∀ m, m ∈ ns → (∀ y, y ∈ ns → m ≤ y) → Q (.st (.int m))) : fMin [.st (.lst (ns.map D.int))] Q :=
  .inr ⟨_, ns, rfl, by simp, List.length_pos_iff.mpr h, q⟩
theorem fMin_vl {ns : List Int} (h : ns ≠ []) (q : ∀ m, m ∈ ns → (∀ y, y ∈ ns → m ≤ y) → Q (.st (.int m))) : fMin [.vl (ns.map fun n => T.st (D.int n))] Q :=
  .inr ⟨_, ns, rfl, by rw [show (ns.map fun n => T.st (D.int n)) = (ns.map D.int).map T.st by simp, dl_vl], List.length_pos_iff.mpr h, q⟩
theorem fAny_lst {bs : List Bool} : fAny [.st (.lst (bs.map D.bl))] Q ↔ Q (.st (.bl (bs.any id))) := by
  have inj : ∀ {xs ys : List Bool}, xs.map D.bl = ys.map D.bl → xs = ys := fun h => List.map_inj_right (fun _ _ e => by cases e; rfl) |>.mp h
  unfold fAny
  constructor
  · rintro ⟨t, bs', e, h1, h2⟩
    cases e
    simp at h1
    rw [inj h1]; exact h2
  · intro h; exact ⟨_, bs, rfl, by simp, h⟩
theorem fAll_lst {bs : List Bool} : fAll [.st (.lst (bs.map D.bl))] Q ↔ Q (.st (.bl (bs.all id))) := by
  have inj : ∀ {xs ys : List Bool}, xs.map D.bl = ys.map D.bl → xs = ys := fun h => List.map_inj_right (fun _ _ e => by cases e; rfl) |>.mp h
  unfold fAll
  constructor
  · rintro ⟨t, bs', e, h1, h2⟩
    cases e
    simp at h1
    rw [inj h1]; exact h2
  · intro h; exact ⟨_, bs, rfl, by simp, h⟩
theorem fIn_strs {neg : Bool} {xs : List Str} : fInA neg (.st (.str x)) (.st (.lst (xs.map D.str))) Q ↔ Q (.st (.bl (if neg then !decide (x ∈ xs) else decide (x ∈ xs)))) := by
  have hm : (xs.map D.str).mapM D.fl? = some (xs.map V.str) := by
    induction xs with
    | nil => rfl
    | cons z zs ih => simp [List.mapM_cons, D.fl?, ih]
  have hin : inV (.str x) (xs.map V.str) = decide (x ∈ xs) := by
    unfold inV
    rw [Bool.eq_iff_iff]
    simp [eqV]
  unfold fInA fIn
  constructor
  · rintro (⟨u, ds, vs, h1, h2, h3, h4⟩ | ⟨k, o, _, h2, _⟩)
    · cases h1
      simp at h2
      subst h2
      rw [hm] at h3; cases h3
      rw [← hin]; exact h4
    · simp [T.get?] at h2
  · intro h
    exact .inl ⟨.str x, _, _, rfl, by simp, hm, by rw [hin]; exact h⟩
theorem fIn_intsV {neg : Bool} {ns : List Int} : fInA neg (.st (.int a)) (.vl (ns.map fun n => .st (.int n))) Q ↔ Q (.st (.bl (if neg then !decide (a ∈ ns) else decide (a ∈ ns)))) := by
  have hm : (ns.map D.int).mapM D.fl? = some (ns.map V.int) := by
    induction ns with
    | nil => rfl
    | cons z zs ih => simp [List.mapM_cons, D.fl?, ih]
  have hin : inV (.int a) (ns.map V.int) = decide (a ∈ ns) := by
    unfold inV
    rw [Bool.eq_iff_iff]
    simp [eqV]
  have hd : (T.vl (ns.map fun n => .st (.int n))).dq? = some (ns.map D.int) := by
    have := dq_vl (ns.map D.int)
    rw [List.map_map] at this
    exact this
  unfold fInA fIn
  constructor
  · rintro (⟨u, ds, vs, h1, h2, h3, h4⟩ | ⟨k, o, _, h2, _⟩)
    · cases h1
      rw [hd] at h2; cases h2
      rw [hm] at h3; cases h3
      rw [← hin]; exact h4
    · simp [T.get?] at h2
  · intro h
    exact .inl ⟨.int a, _, _, rfl, hd, hm, by rw [hin]; exact h⟩
theorem fIn_intsL {neg : Bool} {ns : List Int} : fInA neg (.st (.int a)) (.st (.lst (ns.map D.int))) Q ↔ Q (.st (.bl (if neg then !decide (a ∈ ns) else decide (a ∈ ns)))) := by
  have hm : (ns.map D.int).mapM D.fl? = some (ns.map V.int) := by
    induction ns with
    | nil => rfl
    | cons z zs ih => simp [List.mapM_cons, D.fl?, ih]
  have hin : inV (.int a) (ns.map V.int) = decide (a ∈ ns) := by
    unfold inV
    rw [Bool.eq_iff_iff]
    simp [eqV]
  unfold fInA fIn
  constructor
  · rintro (⟨u, ds, vs, h1, h2, h3, h4⟩ | ⟨k, o, _, h2, _⟩)
    · cases h1
      simp at h2
      subst h2
      rw [hm] at h3; cases h3
      rw [← hin]; exact h4
    · simp [T.get?] at h2
  · intro h
    exact .inl ⟨.int a, _, _, rfl, by simp, hm, by rw [hin]; exact h⟩
/-- the place of a name -/
def ixOf (xs : List Str) (x : Str) : Nat := xs.findIdx fun y => decide (y = x)
theorem ixOf_lt {xs : List Str} (h : x ∈ xs) : ixOf xs x < xs.length := by
  unfold ixOf
  rw [List.findIdx_lt_length]
  exact ⟨x, h, by simp⟩
theorem ixOf_get {xs : List Str} (h : x ∈ xs) : xs[ixOf xs x]? = some x := by
  have hl := ixOf_lt h
  rw [List.getElem?_eq_getElem hl]
  have := List.findIdx_getElem (w := hl)
  exact congrArg some (of_decide_eq_true this)
theorem nodup_inj {α : Type} {xs : List α} (nd : xs.Nodup) {i j : Nat} (hi : i < xs.length) (hj : j < xs.length) (e : xs[i] = xs[j]) : i = j := by
  rcases Nat.lt_trichotomy i j with h | h | h
  · exact absurd e (List.pairwise_iff_getElem.mp nd i j hi hj h)
  · exact h
  · exact absurd e.symm (List.pairwise_iff_getElem.mp nd j i hj hi h)
theorem ixOf_getElem {xs : List Str} (nd : xs.Nodup) {k : Nat} (h : k < xs.length) : ixOf xs xs[k] = k := by
  have h2 := ixOf_get (List.getElem_mem h)
  have hl := ixOf_lt (List.getElem_mem h)
  rw [List.getElem?_eq_getElem hl] at h2
  exact nodup_inj nd hl h (Option.some.inj h2)
theorem fIndex_strs {xs : List Str} (h : x ∈ xs) (q : Q (.st (.int (ixOf xs x)))) : fIndex (.st (.lst (xs.map D.str))) [.st (.str x)] Q := by
  have hm : (xs.map D.str).mapM D.fl? = some (xs.map V.str) := by
    clear h q
    induction xs with
    | nil => rfl
    | cons z zs ih => simp [List.mapM_cons, D.fl?, ih]
  refine ⟨_, .str x, _, _, ixOf xs x, .str x, rfl, rfl, by simp, hm, by rw [List.getElem?_map, ixOf_get h]; rfl, by simp [eqV], fun m z hm hz => ?_, q⟩
  rw [List.getElem?_map, Option.map_eq_some_iff] at hz
  obtain ⟨y, h1, rfl⟩ := hz
  have hlt : m < xs.length := (List.getElem?_eq_some_iff.mp h1).1
  have := List.not_of_lt_findIdx hm
  rw [List.getElem?_eq_getElem hlt] at h1
  cases h1
  simpa [eqV] using this
theorem fIndex_strsV {xs : List Str} (h : x ∈ xs) (q : Q (.st (.int (ixOf xs x)))) : fIndex (.vl (xs.map fun z => T.st (D.str z))) [.st (.str x)] Q := by
  have hm : (xs.map D.str).mapM D.fl? = some (xs.map V.str) := by
    clear h q
    induction xs with
    | nil => rfl
    | cons z zs ih => simp [List.mapM_cons, D.fl?, ih]
  have hd : (T.vl (xs.map fun z => T.st (D.str z))).dl? = some (xs.map D.str) := by
    have := dl_vl (xs.map D.str)
    rw [List.map_map] at this
    exact this
  refine ⟨_, .str x, _, _, ixOf xs x, .str x, rfl, rfl, hd, hm, by rw [List.getElem?_map, ixOf_get h]; rfl, by simp [eqV], fun m z hm hz => ?_, q⟩
  rw [List.getElem?_map, Option.map_eq_some_iff] at hz
  obtain ⟨y, h1, rfl⟩ := hz
  have hlt : m < xs.length := (List.getElem?_eq_some_iff.mp h1).1
  have := List.not_of_lt_findIdx hm
  rw [List.getElem?_eq_getElem hlt] at h1
  cases h1
  simpa [eqV] using this
/-! ### comprehensions and loops -/
theorem compW_map {f : D → (Option T → Prop) → Prop} (e : α → D) (g : α → T) : ∀ {xs : List α} {Q : List T → Prop}, (∀ x ∈ xs, ∀ R : Option T → Prop, R (some (g x)) → f (e x) R) → Q (xs.map g) → compW f (xs.map e) Q
  | [], Q, _, q => q
  | x :: xs, Q, h, q => h x (.head _) _ (compW_map e g (fun y m => h y (.tail _ m)) q)
theorem compW_filt {f : D → (Option T → Prop) → Prop} (e : α → D) (p : α → Bool) (g : α → T) : ∀ {xs : List α} {Q : List T → Prop}, (∀ x ∈ xs, ∀ R : Option T → Prop, R (if p x = true then some (g x) else none) → f (e x) R) → Q ((xs.filter p).map g) → compW f (xs.map e) Q
  | [], Q, _, q => q
  | x :: xs, Q, h, q => h x (.head _) _ (compW_filt e p g (fun y m => h y (.tail _ m)) (by
      cases hp : p x with
      | true => rw [List.filter_cons_of_pos hp] at q; simpa using q
      | false => rw [List.filter_cons_of_neg (by simp [hp])] at q; simpa using q))
/-- each member is one of several -/
theorem compW_any {f : D → (Option T → Prop) → Prop} (e : α → D) (G : α → T → Prop) : ∀ {xs : List α} {Q : List T → Prop}, (∀ x ∈ xs, ∀ R : Option T → Prop, (∀ t, G x t → R (some t)) → f (e x) R) → (∀ ts, Paired G xs ts → Q ts) → compW f (xs.map e) Q
  | [], Q, _, q => q [] .nil
  | x :: xs, Q, h, q => h x (.head _) _ fun t ht => compW_any e G (fun y m => h y (.tail _ m)) fun ts h2 => q (t :: ts) (.cons ht h2)
theorem compD_map {f : D → (Option (Key × T) → Prop) → Prop} (e : α → D) (k : α → Key) (g : α → T) : ∀ {xs : List α} {es : List (Key × T)} {Q : List (Key × T) → Prop}, (∀ x ∈ xs, ∀ R : Option (Key × T) → Prop, R (some (k x, g x)) → f (e x) R) → (xs.map k).Nodup → (∀ x ∈ xs, look es (k x) = none) → Q (es ++ xs.map fun x => (k x, g x)) → compD f (xs.map e) es Q
  | [], es, Q, _, _, _, q => by simpa [compD] using q
  | x :: xs, es, Q, h, nd, hn, q => by
    refine h x (.head _) _ (.inl ⟨hn x (.head _), compD_map e k g (fun y m => h y (.tail _ m)) (List.nodup_cons.mp nd).2 (fun y m => ?_) (by simpa using q)⟩)
    have h1 := hn y (.tail _ m)
    have h2 : k x ≠ k y := fun e => (List.nodup_cons.mp nd).1 (by rw [e]; exact List.mem_map_of_mem m)
    unfold look at h1 ⊢
    rw [List.find?_append]
    rw [Option.map_eq_none_iff] at h1
    simp [h1, h2]
theorem forW_inv {tg : Tgt} {body : SW} {E : EndsW} (e : α → D) {xs : List α} (I : List α → Env → Prop) (h0 : I [] env)
    (hs : ∀ (pre : List α) (x : α) (post : List α) (env : Env) (N : Env → Prop), xs = pre ++ x :: post → I pre env → (∀ env', I (pre ++ [x]) env' → N env') → ∃ env', setT tg (e x) env = some env' ∧ body { nx := N, rt := E.rt, bk := E.nx, ct := N, rv := E.rv } env')
    (hd : ∀ env, I xs env → E.nx env) : forW tg body E (xs.map e) env := by
  have go : ∀ (post pre : List α) (env : Env), xs = pre ++ post → I pre env → forW tg body E (post.map e) env := by
    intro post
    induction post with
    | nil => intro pre env h1 h2; exact hd env (by rw [h1]; simpa using h2)
    | cons x post ih =>
      intro pre env h1 h2
      exact hs pre x post env _ h1 h2 fun env' h3 => ih (pre ++ [x]) env' (by simp [h1]) h3
  exact go xs [] env rfl h0
/-- a loop that may hand back or go on -/
theorem while_inv {wt : TW} {body : SW} {E : EndsW} (I : Env → Prop) (μ : Env → Nat) (h0 : I env)
    (hs : ∀ (env : Env) (N : Env → Prop), I env → (∀ env', I env' → μ env' < μ env → N env') → wt env fun c => if c = true then body { nx := N, rt := E.rt, bk := E.nx, ct := N, rv := E.rv } env else E.nx env) : sWhile wt body E env := by
  refine ⟨fun m env => m = μ env ∧ I env, ⟨_, rfl, h0⟩, ?_⟩
  rintro m env ⟨rfl, h⟩
  exact hs env _ h fun env' h1 h2 => ⟨_, h2, rfl, h1⟩
@[simp] theorem erase_st {d : D} : (T.st d).erase = d := by simp [T.erase]
theorem erase_vl {f : α → D} {xs : List α} : (T.vl (xs.map fun x => .st (f x))).erase = .lst (xs.map f) := by
  simp [T.erase, erases_map]
theorem erase_vlst {ds : List D} : (T.vl (ds.map .st)).erase = .lst ds := by
  have := erase_vl (f := fun d : D => d) (xs := ds)
  simpa using this
theorem erase_vk {k : α → Key} {f : α → D} {xs : List α} : (T.vk (xs.map fun x => (k x, .st (f x)))).erase = .dk (xs.map fun x => (k x, f x)) := by
  simp [T.erase, eraseK_map]
theorem rng_eq (n : Nat) : rngD 0 n = (List.range n).map fun i : Nat => D.int i := by simp [rngD]
end
theorem setT_nm (i : Nat) (d : D) (env : Env) : setT (.nm i) d env = some (env.set i (some (.st d))) := by unfold setT; rfl
theorem setT_tp (ts : List Tgt) (ds : List D) (env : Env) : setT (.tp ts) (.tup ds) env = setTs ts ds env := by conv => lhs; unfold setT
theorem setTs_nil (env : Env) : setTs [] [] env = some env := by unfold setTs; rfl
theorem setTs_cons (t : Tgt) (ts : List Tgt) (d : D) (ds : List D) (env : Env) : setTs (t :: ts) (d :: ds) env = (setT t d env).bind fun e => setTs ts ds e := by conv => lhs; unfold setTs
end Pw
namespace Pw
open PySem PySem.Spec PyProof.Rows L2
/-! ### works -/
structure Bn where
  name : Str
  start : Str
  goal : Str
  stock : Int
  room : Option Int
structure Wk where
  ms : List (Str × Int)
  bs : List Bn
structure Ti where
  word : Str
  bin : Str
  start : Str
  goal : Str
  count : Int
def encM (m : Str × Int) : D := .tup [.str m.1, .int m.2]
def encR : Option Int → D
  | none => .non
  | some r => .int r
def encB (b : Bn) : D := .tup [.str b.name, .str b.start, .str b.goal, .int b.stock, encR b.room]
def enc (w : Wk) : D := .tup [.tup (w.ms.map encM), .tup (w.bs.map encB)]
def encT (t : Ti) : D := .tup [.tup [.str t.word, .str t.bin], .str t.start, .str t.goal, .int t.count]
namespace Wk
def names (w : Wk) : List Str := w.ms.map (·.1)
def partOf (b : Bn) : Ti := ⟨"part", b.name, b.start, b.goal, b.stock⟩
def roomOf (b : Bn) : Option Ti := b.room.map fun r => ⟨"room", b.name, b.goal, b.start, r - b.stock⟩
def ties (w : Wk) : List Ti := w.bs.map partOf ++ w.bs.filterMap roomOf
/-- the time of a machine -/
def time (w : Wk) (x : Str) : Int := (look (w.ms.map fun m => ((Sum.inr m.1 : Key), m.2)) (.inr x)).getD 0
structure Ok (w : Wk) : Prop where
  nd : w.names.Nodup
  ne : w.ms ≠ []
  sm : w.ms.length ≤ 100
  sb : w.bs.length ≤ 100
  ends : ∀ b ∈ w.bs, b.start ∈ w.names ∧ b.goal ∈ w.names
  cnt : ∀ t ∈ w.ties, 0 ≤ t.count
  tm : ∀ m ∈ w.ms, 0 ≤ m.2
  oks : ∀ x ∈ w.names, PyData.strOk x = true
  bnd : (w.bs.map (·.name)).Nodup
  okb : ∀ x ∈ w.bs.map (·.name), PyData.strOk x = true
theorem Ok.tie {w : Wk} (h : w.Ok) {t : Ti} (m : t ∈ w.ties) : t.start ∈ w.names ∧ t.goal ∈ w.names := by
  rcases List.mem_append.mp m with m | m
  · obtain ⟨b, hb, rfl⟩ := List.mem_map.mp m
    exact h.ends b hb
  · obtain ⟨b, hb, e⟩ := List.mem_filterMap.mp m
    unfold roomOf at e
    rw [Option.map_eq_some_iff] at e
    obtain ⟨r, _, rfl⟩ := e
    exact (h.ends b hb).symm
theorem ties_len (w : Wk) : w.ties.length ≤ 2 * w.bs.length := by
  unfold ties
  rw [List.length_append, List.length_map]
  have := List.length_filterMap_le roomOf w.bs
  omega
end Wk
/-- the dict of the times -/
def encTimes (w : Wk) : D := .dk (w.ms.map fun m => (Sum.inr m.1, D.int m.2))
theorem look_map {κ α β : Type} [DecidableEq κ] {xs : List β} {k : β → κ} {g : β → α} (nd : (xs.map k).Nodup) {x : β} (h : x ∈ xs) : look (xs.map fun x => (k x, g x)) (k x) = some (g x) := by
  induction xs with
  | nil => cases h
  | cons y ys ih =>
    have nd := List.nodup_cons.mp nd
    rcases List.mem_cons.mp h with rfl | h
    · simp [look]
    · have : k y ≠ k x := fun e => nd.1 (by rw [e]; exact List.mem_map_of_mem h)
      have ih := ih nd.2 h
      simp [look, this] at ih ⊢
      exact ih
theorem look_none {κ α β : Type} [DecidableEq κ] {xs : List β} {k : β → κ} {g : β → α} {y : κ} (h : ∀ x ∈ xs, k x ≠ y) : look (xs.map fun x => (k x, g x)) y = none := by
  simp [look]
  intro x hx
  exact h x hx
theorem Wk.time_of {w : Wk} (h : w.Ok) {m : Str × Int} (hm : m ∈ w.ms) : w.time m.1 = m.2 := by
  unfold Wk.time
  have nd : (w.ms.map fun m => (Sum.inr m.1 : Key)).Nodup := by
    have := h.nd
    unfold Wk.names at this
    have e : (w.ms.map fun m => (Sum.inr m.1 : Key)) = (w.ms.map (·.1)).map Sum.inr := by simp
    rw [e]
    exact List.Pairwise.map Sum.inr (fun a b hab e => hab (Sum.inr.inj e)) this
  rw [look_map (k := fun m : Str × Int => (Sum.inr m.1 : Key)) nd hm]
  rfl
theorem look_times {w : Wk} (h : w.Ok) {x : Str} (hx : x ∈ w.names) : look (w.ms.map fun m => ((Sum.inr m.1 : Key), D.int m.2)) (.inr x) = some (.int (w.time x)) := by
  obtain ⟨m, hm, rfl⟩ := List.mem_map.mp hx
  rw [Wk.time_of h hm]
  have nd : (w.ms.map fun m => (Sum.inr m.1 : Key)).Nodup := by
    have := h.nd
    unfold Wk.names at this
    have e : (w.ms.map fun m => (Sum.inr m.1 : Key)) = (w.ms.map (·.1)).map Sum.inr := by simp
    rw [e]
    exact List.Pairwise.map Sum.inr (fun a b hab e => hab (Sum.inr.inj e)) this
  exact look_map (k := fun m : Str × Int => (Sum.inr m.1 : Key)) (g := fun m => D.int m.2) nd hm
/-! ### promises -/
def sp_names_of : PSp := fun ds R => ∃ w : Wk, ds = [enc w] ∧ w.Ok ∧ R (.lst (w.names.map D.str))
def sp_times_of : PSp := fun ds R => ∃ w : Wk, ds = [enc w] ∧ w.Ok ∧ R (encTimes w)
def sp_ties_of : PSp := fun ds R => ∃ w : Wk, ds = [enc w] ∧ w.Ok ∧ R (.lst (w.ties.map encT))
theorem l_names_of : ∀ ds R, sp_names_of ds R → ds.length = 1 := by rintro ds R ⟨w, rfl, _⟩; rfl
theorem l_times_of : ∀ ds R, sp_times_of ds R → ds.length = 1 := by rintro ds R ⟨w, rfl, _⟩; rfl
theorem l_ties_of : ∀ ds R, sp_ties_of ds R → ds.length = 1 := by rintro ds R ⟨w, rfl, _⟩; rfl
def w_names_of : SW := (sRet (wFz (wLc (wItS (wOp fGet (wV 0) (wC (.int 0)))) (.nm 1) wYes (wNw (wOp fGet (wV 1) (wC (.int 0)))) [1])))
def w_times_of : SW := (sRet (wFz (wDc (wItS (wOp fGet (wV 0) (wC (.int 0)))) (.nm 1) wYes (wOp fGet (wV 1) (wC (.int 0))) (wNw (wOp fGet (wV 1) (wC (.int 1)))) [1])))
def w_ties_of : SW := (sSeq (sAsg 1 (wFz (wLc (wItS (wOp fGet (wV 0) (wC (.int 1)))) (.tp ((.nm 3) :: ((.nm 4) :: ((.nm 5) :: ((.nm 6) :: ((.nm 7) :: [])))))) wYes (wNw (wTup (wCons (wTup (wCons (wC (.str "part")) (wCons (wV 3) wNil))) (wCons (wV 4) (wCons (wV 5) (wCons (wV 6) wNil)))))) [3, 4, 5, 6, 7])))
    (sSeq (sNew 2 (wLst wNil))
    (sSeq (sFor (wItS (wOp fGet (wV 0) (wC (.int 1)))) (.tp ((.nm 3) :: ((.nm 4) :: ((.nm 5) :: ((.nm 6) :: ((.nm 7) :: [])))))) (sIf (wTest (wOp fNotN (wV 7) (wC .non))) (sApp 2 (wTup (wCons (wTup (wCons (wC (.str "room")) (wCons (wV 3) wNil))) (wCons (wV 5) (wCons (wV 4) (wCons (wOp fSub (wV 7) (wV 6)) wNil)))))) sNext))
    (sFrz 2 (sRet (wOp fAdd (wV 1) (wV 2)))))))
local macro_rules | `(tactic| walk_at "pw") => `(tactic| simp only [wV, wC, wOp, wUn, wTest, wAnd, wOr, wNot, wTru, wIf, wNil, wCons, wTup, wLst, wFz, wNw, wDk, wDt, wCB, wM, wM1, wCall, wGet2, wSl, wSo, wNo, wRev, wItS, wRg1, wRg2, wRg3, wEnum, wLc, wDc, wDisp, wPairs, wYes, sNext, sSeq, sAsg, sNew, sAsgT, sFrz, sDrop, sRet, sRetV, sRetN, sIf, sFor, sAugI, sApp, sSet, sSet2, sApp2, sDAug, sAppPop, sSdApp, sExt, sNever, setT_nm, setT_tp, setTs_nil, setTs_cons, T.it?, T.il?, plainL, startE, wipeE, List.map_cons, List.map_nil, List.length_cons, List.length_nil, List.replicate_succ, List.replicate_zero, List.cons_append, List.nil_append, List.append_nil, List.getElem?_cons_zero, List.getElem?_cons_succ, List.set_cons_zero, List.set_cons_succ, Option.some.injEq, T.st.injEq, T.vl.injEq, T.vk.injEq, D.tup.injEq, D.lst.injEq, D.int.injEq, D.str.injEq, D.bl.injEq, exists_eq_left', exists_eq_left, exists_and_left, and_true, true_and, Option.bind_some, Option.map_some, fGet_tup, fGet_lst, fGet_vl, fGet_str, fGet_dk, fGet_vk, fII_st, fAdd_int, fAdd_str, fAdd_lst, fAdd_lv, fEqA_int, fEqA_str, fNotN_non, fNotN_int, fIsN_non, fIsN_int, fLen_lst, fLen_tup, fLen_vl, fInt_int, fInt_bl, fTuple_lst, fTuple_vl, fTuple_tup, fList_tup, fList_lst, fMax_2, fMax_3, fMin_2, atI_0, atI_1, atI_2, atI_3, atI_4, erase_st, decide_eq_true_eq, Bool.false_eq_true, if_true, if_false, ite_true, ite_false])
theorem Wk.Ok.sm' {w : Wk} (h : w.Ok) : (w.ms.map encM).length ≤ 100000 := by
  have := h.sm
  rw [List.length_map]; omega
theorem Wk.Ok.sb' {w : Wk} (h : w.Ok) : (w.bs.map encB).length ≤ 100000 := by
  have := h.sb
  rw [List.length_map]; omega
theorem p_names_of : ∀ ds R, sp_names_of ds R → w_names_of { nx := fun _ => R .non, rt := R } (startE 2 ds) := by
  rintro ds R ⟨w, rfl, h, q⟩
  unfold w_names_of enc
  walk_at "pw"
  refine ⟨h.sm', compW_map encM (fun m => .st (.str m.1)) (fun m _ R hR => ?_) ?_⟩
  · unfold encM; walk_at "pw"; exact hR
  · rw [erase_vl (f := fun m : Str × Int => D.str m.1)]
    unfold Wk.names at q
    rw [List.map_map] at q
    exact q
theorem p_times_of : ∀ ds R, sp_times_of ds R → w_times_of { nx := fun _ => R .non, rt := R } (startE 2 ds) := by
  rintro ds R ⟨w, rfl, h, q⟩
  unfold w_times_of enc
  walk_at "pw"
  refine ⟨h.sm', compD_map encM (fun m => Sum.inr m.1) (fun m => .st (.int m.2)) (fun m _ R hR => ?_) ?_ (fun m _ => rfl) ?_⟩
  · unfold encM; walk_at "pw"
    exact ⟨_, rfl, hR⟩
  · have := h.nd
    unfold Wk.names at this
    have e : (w.ms.map fun m => (Sum.inr m.1 : Key)) = (w.ms.map (·.1)).map Sum.inr := by simp
    rw [e]
    exact List.Pairwise.map Sum.inr (fun a b hab e => hab (Sum.inr.inj e)) this
  · rw [List.nil_append, erase_vk (k := fun m : Str × Int => (Sum.inr m.1 : Key)) (f := fun m : Str × Int => D.int m.2)]
    exact q
theorem p_ties_of : ∀ ds R, sp_ties_of ds R → w_ties_of { nx := fun _ => R .non, rt := R } (startE 8 ds) := by
  rintro ds R ⟨w, rfl, h, q⟩
  unfold w_ties_of enc
  walk_at "pw"
  refine ⟨h.sb', compW_map encB (fun b => .st (encT (Wk.partOf b))) (fun b _ R hR => ?_) ?_⟩
  · unfold encB
    walk_at "pw"
    exact ⟨by decide, by decide, hR⟩
  rw [erase_vl (f := fun b => encT (Wk.partOf b))]
  refine ⟨by decide, forW_inv encB (fun pre env => ∃ j3 j4 j5 j6 j7, env = [some (.st (enc w)), some (.st (.lst (w.bs.map fun b => encT (Wk.partOf b)))), some (.vl ((pre.filterMap Wk.roomOf).map fun t => .st (encT t))), j3, j4, j5, j6, j7]) ⟨_, _, _, _, _, rfl⟩ ?_ ?_⟩
  · rintro pre b post env N e ⟨j3, j4, j5, j6, j7, rfl⟩ hN
    unfold encB
    walk_at "pw"
    have hl : (pre.filterMap Wk.roomOf).length ≤ 100000 := by
      have h1 := List.length_filterMap_le Wk.roomOf pre
      have h2 := h.sb
      rw [e] at h2
      simp at h2
      omega
    cases hr : b.room with
    | none =>
      have e2 : (pre ++ [b]).filterMap Wk.roomOf = pre.filterMap Wk.roomOf := by simp [List.filterMap_append, Wk.roomOf, hr]
      rw [e2] at hN
      unfold encR
      walk_at "pw"
      exact hN _ ⟨_, _, _, _, _, rfl⟩
    | some r =>
      have e2 : (pre ++ [b]).filterMap Wk.roomOf = pre.filterMap Wk.roomOf ++ [⟨"room", b.name, b.goal, b.start, r - b.stock⟩] := by simp [List.filterMap_append, Wk.roomOf, hr]
      rw [e2, List.map_append] at hN
      unfold encR
      walk_at "pw"
      exact ⟨by simpa using hl, by decide, by decide, hN _ ⟨_, _, _, _, _, rfl⟩⟩
  · rintro env ⟨j3, j4, j5, j6, j7, rfl⟩
    walk_at "pw"
    rw [erase_vl (f := encT)]
    walk_at "pw"
    refine ⟨?_, ?_⟩
    · have h1 := List.length_filterMap_le Wk.roomOf w.bs
      have h2 := h.sb
      simp
      exact Nat.le_trans (by omega : _ ≤ 1000) (by decide)
    · unfold Wk.ties at q
      rw [List.map_append, List.map_map] at q
      exact q
end Pw
namespace Pw
open PySem PySem.Spec PyProof.Rows L2

/-! ### the law's helpers: promises -/
def sp_law_take : PSp := fun ds R => ∃ many : Int, ds = [.bx, .int many] ∧ 0 < many ∧ ∀ i : Int, 0 ≤ i → i < many → R (.int i)
theorem take_iff {m : Int} {R : D → Prop} : sp_law_take [.bx, .int m] R ↔ 0 < m ∧ ∀ i : Int, 0 ≤ i → i < m → R (.int i) := by
  unfold sp_law_take
  constructor
  · rintro ⟨m', e, h⟩
    cases e; exact h
  · intro h; exact ⟨m, rfl, h⟩
theorem dl_strN {x : Str} : (T.st (.str x)).dl? = none := rfl
local macro_rules | `(tactic| walk_at "pw") => `(tactic| simp only [wV, wC, wOp, wUn, wTest, wAnd, wOr, wNot, wTru, wIf, wNil, wCons, wTup, wLst, wFz, wNw, wDk, wDt, wCB, wM, wM1, wCall, wGet2, wSl, wSo, wNo, wRev, wItS, wRg1, wRg2, wRg3, wEnum, wLc, wDc, wDisp, wPairs, wYes, sNext, sSeq, sAsg, sNew, sAsgT, sFrz, sDrop, sRet, sRetV, sRetN, sIf, sFor, sAugI, sApp, sSet, sSet2, sApp2, sDAug, sAppPop, sSdApp, sExt, sNever, setT_nm, setT_tp, setTs_nil, setTs_cons, T.it?, T.il?, plainL, startE, wipeE, List.map_cons, List.map_nil, List.length_cons, List.length_nil, List.replicate_succ, List.replicate_zero, List.cons_append, List.nil_append, List.append_nil, List.getElem?_cons_zero, List.getElem?_cons_succ, List.set_cons_zero, List.set_cons_succ, Option.some.injEq, T.st.injEq, T.vl.injEq, T.vk.injEq, D.tup.injEq, D.lst.injEq, D.int.injEq, D.str.injEq, D.bl.injEq, List.cons.injEq, exists_eq', exists_eq, Int.toNat_natCast, rng_eq, List.length_map, List.length_range, exists_eq_left', exists_eq_left, exists_and_left, and_true, true_and, Option.bind_some, Option.map_some, fGet_tup, fGet_lst, fGet_vl, fGet_str, fGet_dk, fGet_vk, fII_st, fAdd_int, fAdd_str, fAdd_lst, fAdd_lv, fEqA_int, fEqA_str, fNotN_non, fNotN_int, fIsN_non, fIsN_int, fLen_lst, fLen_tup, fLen_vl, fLen_str, dl_strN, dl_lst, reduceCtorEq, false_and, and_false, exists_false, false_or, or_false, fInt_int, fInt_bl, fTuple_lst, fTuple_vl, fTuple_tup, fList_tup, fList_lst, fMax_2, fMax_3, fMin_2, atI_0, atI_1, atI_2, atI_3, atI_4, erase_st, decide_eq_true_eq, Bool.false_eq_true, if_true, if_false, take_iff, ite_true, ite_false])
theorem l_law_take : ∀ ds R, sp_law_take ds R → ds.length = 2 := by rintro ds R ⟨m, rfl, _⟩; rfl
def sp_law_pick : PSp := fun ds R => ∃ row : List D, (ds = [.bx, .lst row] ∨ ds = [.bx, .tup row]) ∧ row ≠ [] ∧ ∀ d ∈ row, R d
theorem l_law_pick : ∀ ds R, sp_law_pick ds R → ds.length = 2 := by rintro ds R ⟨m, (rfl | rfl), _⟩ <;> rfl
def okS (x : Str) : Prop := PyData.strOk x = true
def sp_law_word : PSp := fun ds R => ∃ n : Nat, ds = [.bx, .int n] ∧ n ≤ 1000 ∧ ∀ s : Str, s.length = n → okS s → R (.str s)
theorem l_law_word : ∀ ds R, sp_law_word ds R → ds.length = 2 := by rintro ds R ⟨m, rfl, _⟩; rfl
def sp_law_names : PSp := fun ds R => ∃ n : Nat, ds = [.bx, .int n] ∧ n ≤ 26 ∧ ∀ xs : List Str, xs.Nodup → xs.length = n → (∀ x ∈ xs, okS x) → R (.lst (xs.map D.str))
theorem l_law_names : ∀ ds R, sp_law_names ds R → ds.length = 2 := by rintro ds R ⟨m, rfl, _⟩; rfl
def w_law_pick : SW := (sRet (wOp fGet (wV 1) (wCall sp_law_take (wCons (wV 0) (wCons (wCB fLen (wCons (wV 1) wNil)) wNil)))))
def w_law_word : SW := (sRet (wM1 fJoin (wC (.str "")) (wFz (wLc (wRg1 (wCons (wV 1) wNil)) (.nm 2) wYes (wNw (wOp fGet (wC (.str "abcdefghijklmnopqrstuvwxyz")) (wCall sp_law_take (wCons (wV 0) (wCons (wC (.int 26)) wNil))))) [2]))))
def names2 : SW :=
    (sSeq (sAsg 2 (wCall sp_law_word (wCons (wV 0) (wCons (wCall sp_law_take (wCons (wV 0) (wCons (wC (.int 8)) wNil))) wNil))))
    (sSeq (sAsg 3 (wCall sp_law_take (wCons (wV 0) (wCons (wOp fAdd (wCB fLen (wCons (wV 2) wNil)) (wC (.int 1))) wNil))))
    (sSeq (sAsg 4 (wCall sp_law_take (wCons (wV 0) (wCons (wC (.int 26)) wNil))))
    (sSeq (sAsg 5 (wCall sp_law_take (wCons (wV 0) (wCons (wC (.int 2)) wNil))))
    (sSeq (sNew 6 (wLst wNil))
    (sSeq (sFor (wRg1 (wCons (wV 1) wNil)) (.nm 7) (sSeq (sAsg 10 (wOp fGet (wC (.str "abcdefghijklmnopqrstuvwxyz")) (wOp fMod (wCB fInt (wCons (wOp fAdd (wV 4) (wOp fMul (wC (.int 5)) (wV 7))) wNil)) (wC (.int 26)))))
    (sSeq (sAsg 11 (wC (.str "")))
    (sSeq (sIf (wTest (wOp fEqA (wV 5) (wC (.int 1)))) (sAsg 11 (wCall sp_law_word (wCons (wV 0) (wCons (wCall sp_law_take (wCons (wV 0) (wCons (wC (.int 4)) wNil))) wNil)))) sNext)
    (sApp 6 (wOp fAdd (wOp fAdd (wOp fAdd (wSl (wV 2) wNo (wSo (wV 3))) (wV 10)) (wSl (wV 2) (wSo (wV 3)) wNo)) (wV 11)))))))
    (sRet (wCB fSortS (wCons (wV 6) wNil)))))))))
def w_law_names : SW := (sSeq (sIf (wAnd (wTest (wOp fLt (wV 1) (wC (.int 9)))) (wTest (wOp fEqA (wCall sp_law_take (wCons (wV 0) (wCons (wC (.int 6)) wNil))) (wC (.int 0))))) (sSeq (sAsg 8 (wC (.str "against along any bar bin counts cycle down empty end endless entries fewest free from go held lead low machine most never no open order part")))
    (sSeq (sAsg 8 (wOp fAdd (wM1 fSplit (wV 8) (wC (.str " "))) (wFz (wLst (wCons (wC (.str "path")) (wCons (wC (.str "reached")) (wCons (wC (.str "ring")) (wCons (wC (.str "room")) (wCons (wC (.str "row")) (wCons (wC (.str "rules")) (wCons (wC (.str "strike")) (wCons (wC (.str "up")) (wCons (wC (.str "walk")) (wCons (wC (.str "went")) (wCons (wC (.str "wish")) (wCons (wC (.str "works")) wNil))))))))))))))))
    (sSeq (sAsg 9 (wCall sp_law_pick (wCons (wV 0) (wCons (wFz (wLst (wCons (wC (.int 0)) (wCons (wC (.int 0)) (wCons (wCall sp_law_take (wCons (wV 0) (wCons (wOp fAdd (wOp fSub (wCB fLen (wCons (wV 8) wNil)) (wV 1)) (wC (.int 1))) wNil))) wNil))))) wNil))))
    (sRet (wSl (wV 8) (wSo (wV 9)) (wSo (wOp fAdd (wV 9) (wV 1)))))))) sNext)
    names2)
theorem p_law_pick : ∀ ds R, sp_law_pick ds R → w_law_pick { nx := fun _ => R .non, rt := R } (startE 2 ds) := by
  rintro ds R ⟨row, (rfl | rfl), hn, q⟩ <;>
  · unfold w_law_pick
    walk_at "pw"
    have hp : 0 < row.length := List.length_pos_iff.mpr hn
    exact ⟨by omega, fun i h0 h1 => ⟨_, atI_lt h0 (by simpa using h1), q _ (List.getElem_mem _)⟩⟩
/-- the letters -/
def abc : Str := Str.ofString "abcdefghijklmnopqrstuvwxyz"
theorem abc_len : abc.length = 26 := by decide +kernel
theorem abc_at {i : Int} (h0 : 0 ≤ i) (h1 : i < 26) : L2.atI abc.cps.toList i = some (97 + i.toNat) := by
  obtain ⟨n, rfl⟩ := Int.eq_ofNat_of_zero_le h0
  rw [atI_get]
  have : ∀ n : Fin 26, abc.cps.toList[n.1]? = some (97 + n.1) := by decide +kernel
  exact this ⟨n, by omega⟩
theorem join_empty : ∀ ys : List Str, (Txt.join (Str.ofString "") ys).cps.toList = (ys.map fun y => y.cps.toList).flatten := by
  intro ys
  show (Builtin.Str.glued (Str.ofString "") ys).cps.toList = _
  rw [StrLaws.glued_eq_join]
  have e : Str.ofString "" = Str.empty := by decide +kernel
  rw [e]
  induction ys with
  | nil => rfl
  | cons a r ih =>
    cases r with
    | nil => simp [Str.join]
    | cons b r =>
      show ((a ++ Str.empty) ++ Str.join Str.empty (b :: r)).cps.toList = _
      have : ∀ x y : Str, (x ++ y).cps.toList = x.cps.toList ++ y.cps.toList := fun x y => Array.toList_append
      rw [this, this, ih]
      simp [Str.empty]
theorem Str.len_list (x : Str) : x.length = x.cps.toList.length := by
  show x.cps.size = _
  simp
theorem paired_map {α β γ : Type} {P : α → β → Prop} {g : β → γ} : ∀ {xs : List α} {ts : List γ}, Paired (fun x t => ∃ y, P x y ∧ t = g y) xs ts → ∃ ys, ts = ys.map g ∧ Paired P xs ys
  | _, _, .nil => ⟨[], rfl, .nil⟩
  | _, _, .cons ⟨y, h, e⟩ r => by
    obtain ⟨ys, e2, h2⟩ := paired_map r
    exact ⟨y :: ys, by rw [e, e2]; rfl, .cons h h2⟩
theorem paired_len {α β : Type} {P : α → β → Prop} : ∀ {xs : List α} {ys : List β}, Paired P xs ys → ys.length = xs.length
  | _, _, .nil => rfl
  | _, _, .cons _ r => by simp [paired_len r]
theorem paired_get {α β : Type} {P : α → β → Prop} : ∀ {xs : List α} {ys : List β}, Paired P xs ys → ∀ (i : Nat) (h1 : i < xs.length) (h2 : i < ys.length), P xs[i] ys[i]
  | _, _, .nil, i, h1, _ => absurd h1 (by simp)
  | _, _, .cons h r, 0, _, _ => h
  | _, _, .cons h r, i + 1, h1, h2 => paired_get r i (by simpa using h1) (by simpa using h2)
theorem fJoin_strs {a : Str} {ys : List Str} {Q : T → Prop} (h : (ys.map (·.length)).sum + ys.length * a.length ≤ 16777216) (q : Q (.st (.str (Txt.join a ys)))) : fJoin (.st (.str a)) [.st (.lst (ys.map D.str))] Q :=
  ⟨a, _, ys, rfl, rfl, by simp, h, q⟩
theorem ones_sum (cs : List Nat) : ((cs.map fun c => (⟨#[c]⟩ : Str)).map (·.length)).sum = cs.length := by
  induction cs with
  | nil => rfl
  | cons c cs ih =>
    simp only [List.map_cons, List.sum_cons, ih, List.length_cons]
    show 1 + _ = _
    omega
theorem okS_iff {x : Str} : okS x ↔ ∀ c ∈ x.cps.toList, c < 0x110000 := by
  unfold okS PyData.strOk
  rw [← Array.all_toList, List.all_eq_true]
  simp
theorem okS_app {x y : Str} (hx : okS x) (hy : okS y) : okS (x ++ y) := by
  rw [okS_iff] at *
  have e : (x ++ y).cps.toList = x.cps.toList ++ y.cps.toList := Array.toList_append
  rw [e]
  intro c hc
  rcases List.mem_append.mp hc with hc | hc
  · exact hx c hc
  · exact hy c hc
theorem p_law_word : ∀ ds R, sp_law_word ds R → w_law_word { nx := fun _ => R .non, rt := R } (startE 3 ds) := by
  rintro ds R ⟨n, rfl, hn, q⟩
  unfold w_law_word
  walk_at "pw"
  refine ⟨by omega, by omega, by omega, compW_any (fun i : Nat => D.int i) (fun _ t => ∃ c : Nat, c < 0x110000 ∧ t = .st (.str ⟨#[c]⟩)) (fun i _ R hR => ?_) fun ts hts => ?_⟩
  · refine ⟨by omega, fun i h0 h1 => ?_⟩
    exact ⟨by decide +kernel, _, abc_at h0 h1, hR _ ⟨_, by omega, rfl⟩⟩
  · obtain ⟨cs, rfl, hp⟩ := paired_map hts
    have hl := paired_len hp
    rw [List.length_range] at hl
    have e : (T.vl (cs.map fun c => T.st (.str ⟨#[c]⟩))).erase = .lst ((cs.map fun c => (⟨#[c]⟩ : Str)).map D.str) := by
      rw [erase_vl (f := fun c : Nat => D.str ⟨#[c]⟩), List.map_map]; rfl
    rw [e]
    have z : (Str.ofString "").length = 0 := by decide +kernel
    have hcs : ∀ c ∈ cs, c < 0x110000 := by
      intro c hc
      obtain ⟨i, hi, rfl⟩ := List.mem_iff_getElem.mp hc
      exact paired_get hp i (by rw [List.length_range]; omega) hi
    refine fJoin_strs ?_ ⟨_, rfl, q _ ?_ ?_⟩
    · rw [ones_sum, z]; omega
    rotate_left
    · rw [okS_iff, join_empty, List.map_map]
      intro c hc
      have : ((cs.map ((fun y : Str => y.cps.toList) ∘ fun c : Nat => (⟨#[c]⟩ : Str)))).flatten = cs := by
        clear e hl hp hts hcs hc
        induction cs with
        | nil => rfl
        | cons c cs ih => simp at ih ⊢; exact ih
      rw [this] at hc
      exact hcs c hc
    · rw [Str.len_list, join_empty, List.map_map]
      have : ((cs.map ((fun y : Str => y.cps.toList) ∘ fun c : Nat => (⟨#[c]⟩ : Str)))).flatten = cs := by
        clear e hl hp hts hcs
        induction cs with
        | nil => rfl
        | cons c cs ih => simp at ih ⊢; exact ih
      rw [this, hl]
theorem forW_rng {n : Nat} {env : Env} {tg : Tgt} {body : SW} {E : EndsW} (I : Nat → Env → Prop) (h0 : I 0 env)
    (hs : ∀ (k : Nat) (env : Env) (N : Env → Prop), k < n → I k env → (∀ env', I (k + 1) env' → N env') → ∃ env', setT tg (.int k) env = some env' ∧ body { nx := N, rt := E.rt, bk := E.nx, ct := N, rv := E.rv } env')
    (hd : ∀ env, I n env → E.nx env) : forW tg body E ((List.range n).map fun i : Nat => D.int i) env := by
  refine forW_inv (fun i : Nat => D.int i) (fun pre env => I pre.length env) h0 (fun pre x post env N e h hN => ?_) fun env h => hd env (by simpa using h)
  have h1 : x = pre.length := by
    have : (List.range n)[pre.length]? = some x := by rw [e]; simp
    rw [List.getElem?_eq_some_iff] at this
    obtain ⟨_, h⟩ := this
    simpa using h.symm
  have h2 : x < n := by
    have : x ∈ List.range n := by rw [e]; simp
    simpa using this
  subst h1
  exact hs _ env N h2 h fun env' h3 => hN env' (by simpa using h3)
theorem app_cps (x y : Str) : (x ++ y).cps.toList = x.cps.toList ++ y.cps.toList := Array.toList_append
theorem app_len (x y : Str) : (x ++ y).length = x.length + y.length := by
  rw [Str.len_list, app_cps, List.length_append, ← Str.len_list, ← Str.len_list]
theorem cutS_lo {z : Str} {p : Int} (h0 : 0 ≤ p) (h1 : p ≤ z.length) : (cutS z none (some p)).cps.toList = z.cps.toList.take p.toNat := by
  obtain ⟨n, rfl⟩ := Int.eq_ofNat_of_zero_le h0
  have : n ≤ z.length := by omega
  unfold cutS
  simp [HT.sIx_none, HT.sIx_nat, Nat.min_eq_left this]
theorem cutS_hi {z : Str} {p : Int} (h0 : 0 ≤ p) (h1 : p ≤ z.length) : (cutS z (some p) none).cps.toList = z.cps.toList.drop p.toNat := by
  obtain ⟨n, rfl⟩ := Int.eq_ofNat_of_zero_le h0
  have : n ≤ z.length := by omega
  unfold cutS
  simp only [HT.sIx_none, HT.sIx_nat, Nat.min_eq_left this]
  rw [List.take_of_length_le (by rw [List.length_drop, ← Str.len_list]; omega)]
  simp
theorem names2_ok {n : Nat} {R : D → Prop} (hn : n ≤ 26) (q : ∀ xs : List Str, xs.Nodup → xs.length = n → (∀ x ∈ xs, okS x) → R (.lst (xs.map D.str))) : names2 { nx := fun _ => R .non, rt := R } [some (.st .bx), some (.st (.int n)), none, none, none, none, none, none, none, none, none, none] := by
  unfold names2
  walk_at "pw"
  refine ⟨by omega, fun i h0 h1 => ⟨i.toNat, by simp [Int.toNat_of_nonneg h0], by omega, fun b hb hbo => ?_⟩⟩
  walk_at "pw"
  refine ⟨by rw [hb]; exact Nat.le_trans (by omega : i.toNat ≤ 8) (by decide), by omega, fun p p0 p1 => ⟨by omega, fun f f0 f1 => ⟨by omega, fun u u0 u1 => ⟨by omega, by omega, by omega, ?_⟩⟩⟩⟩
  refine forW_rng (fun k env => ∃ (xs : List Str) (j7 j10 j11 : Option T), env = [some (.st .bx), some (.st (.int n)), some (.st (.str b)), some (.st (.int p)), some (.st (.int f)), some (.st (.int u)), some (.vl (xs.map fun x => .st (.str x))), j7, none, none, j10, j11] ∧ xs.length = k ∧ (∀ (i : Nat) (h : i < xs.length), xs[i].cps.toList[p.toNat]? = some (97 + ((f + 5 * (i : Int)) % 26).toNat)) ∧ ∀ x ∈ xs, okS x) ⟨[], _, _, _, rfl, rfl, ⟨fun i h => absurd h (by simp), fun x h => absurd h (by simp)⟩⟩ ?_ ?_
  · rintro k env N hk ⟨xs, j7, j10, j11, rfl, hl, hx, hxo⟩ hN
    walk_at "pw"
    have hb8 : b.length ≤ 8 := by omega
    have la : (cutS b none (some p)).length ≤ 8 := by rw [Str.len_list, cutS_lo p0 (by omega), List.length_take, ← Str.len_list]; omega
    have lz : (cutS b (some p) none).length ≤ 8 := by rw [Str.len_list, cutS_hi p0 (by omega), List.length_drop, ← Str.len_list]; omega
    have hc1 : ∀ c : Nat, (⟨#[c]⟩ : Str).length = 1 := fun c => rfl
    have big : 1000 ≤ sizeLine := by decide
    have fin : ∀ t : Str, (∀ (i : Nat) (h : i < (xs ++ [cutS b none (some p) ++ (⟨#[97 + ((f + 5 * (k : Int)) % 26).toNat]⟩ : Str) ++ cutS b (some p) none ++ t]).length), (xs ++ [cutS b none (some p) ++ (⟨#[97 + ((f + 5 * (k : Int)) % 26).toNat]⟩ : Str) ++ cutS b (some p) none ++ t])[i].cps.toList[p.toNat]? = some (97 + ((f + 5 * (i : Int)) % 26).toNat)) := by
      intro t i h
      by_cases hi : i < xs.length
      · rw [List.getElem_append_left hi]; exact hx i hi
      · rw [List.length_append, List.length_singleton] at h
        have : i = xs.length := by omega
        subst this
        rw [List.getElem_append_right (by omega)]
        simp only [Nat.sub_self, List.getElem_singleton, app_cps]
        have ll : (cutS b none (some p)).cps.toList.length = p.toNat := by
          rw [cutS_lo p0 (by omega), List.length_take, ← Str.len_list]; omega
        rw [List.append_assoc, List.append_assoc, List.getElem?_append_right (by omega), ll, hl]
        simp
    have a0 : 0 ≤ (f + 5 * (k : Int)) % 26 := by omega
    have fino : ∀ t : Str, okS t → ∀ x ∈ xs ++ [cutS b none (some p) ++ (⟨#[97 + ((f + 5 * (k : Int)) % 26).toNat]⟩ : Str) ++ cutS b (some p) none ++ t], okS x := by
      intro t ht x hx
      rcases List.mem_append.mp hx with hx | hx
      · exact hxo x hx
      · rw [List.mem_singleton.mp hx]
        have hbo' := okS_iff.mp hbo
        refine okS_app (okS_app (okS_app ?_ ?_) ?_) ht
        · rw [okS_iff, cutS_lo p0 (by omega)]
          exact fun c hc => hbo' c (List.mem_of_mem_take hc)
        · rw [okS_iff]
          intro c hc
          have : c = 97 + ((f + 5 * (k : Int)) % 26).toNat := by simpa using hc
          omega
        · rw [okS_iff, cutS_hi p0 (by omega)]
          exact fun c hc => hbo' c (List.mem_of_mem_drop hc)
    have a1 : (f + 5 * (k : Int)) % 26 < 26 := by omega
    refine ⟨?_, by omega, by decide +kernel, _, abc_at a0 a1, ?_⟩
    · exact .inl ⟨by decide, by decide⟩
    split
    · refine ⟨by omega, fun i i0 i1 => ⟨i.toNat, by simp [Int.toNat_of_nonneg i0], by omega, fun t ht hto => ?_⟩⟩
      walk_at "pw"
      refine ⟨by omega, by omega, by rw [hc1]; omega, by omega, by rw [app_len, hc1]; omega, by rw [app_len, app_len, hc1]; omega, hN _ ⟨xs ++ [_], _, _, _, by rw [List.map_append]; rfl, by simp [hl], fin t, fino t hto⟩⟩
    · have z : (Str.ofString "").length = 0 := by decide +kernel
      refine ⟨by omega, by omega, by rw [hc1]; omega, by omega, by rw [app_len, hc1]; omega, by rw [app_len, app_len, hc1, z]; omega, hN _ ⟨xs ++ [_], _, _, _, by rw [List.map_append]; rfl, by simp [hl], fin _, fino _ (by unfold okS; decide +kernel)⟩⟩
  · rintro env ⟨xs, j7, j10, j11, rfl, hl, hx, hxo⟩
    walk_at "pw"
    refine ⟨_, xs, rfl, by have := dl_vl (xs.map D.str); rw [List.map_map] at this; exact this, by omega, fun ys hp _ => ⟨_, rfl, q ys ?_ (by rw [hp.length_eq, hl]) fun x hx => hxo x (hp.mem_iff.mp hx)⟩⟩
    rw [hp.nodup_iff]
    rw [List.nodup_iff_pairwise_ne, List.pairwise_iff_getElem]
    intro i j hi hj hij e
    have h1 := hx i hi
    have h2 := hx j hj
    rw [e, h2] at h1
    simp only [Option.some.injEq] at h1
    omega
def wordsText : Str := Str.ofString "against along any bar bin counts cycle down empty end endless entries fewest free from go held lead low machine most never no open order part"
def words2 : List Str := [Str.ofString "path", Str.ofString "reached", Str.ofString "ring", Str.ofString "room", Str.ofString "row", Str.ofString "rules", Str.ofString "strike", Str.ofString "up", Str.ofString "walk", Str.ofString "went", Str.ofString "wish", Str.ofString "works"]
def wordsAll : List Str := Txt.split wordsText (Str.ofString " ") ++ words2
theorem words_nodup : wordsAll.Nodup := by decide +kernel
theorem words_ok : ∀ x ∈ wordsAll, okS x := by unfold okS; decide +kernel
theorem words_len : wordsAll.length = 38 := by decide +kernel
theorem erase_strs (xs : List Str) : (T.vl (xs.map fun x => .st (.str x))).erase = .lst (xs.map D.str) := erase_vl (f := D.str)
theorem cutL_mid {α : Type} {xs : List α} {a n : Nat} (h : a + n ≤ xs.length) : cutL xs (some (a : Int)) (some ((a : Int) + n)) = (xs.drop a).take n := by
  unfold cutL
  have : ((a : Int) + (n : Int)) = ((a + n : Nat) : Int) := by omega
  rw [this, HT.sIx_nat, HT.sIx_nat, Nat.min_eq_left h, Nat.min_eq_left (by omega)]
  congr 1
  omega
theorem p_law_names : ∀ ds R, sp_law_names ds R → w_law_names { nx := fun _ => R .non, rt := R } (startE 12 ds) := by
  rintro ds R ⟨n, rfl, hn, q⟩
  have rest := names2_ok hn q
  unfold w_law_names
  walk_at "pw"
  split
  · refine ⟨by omega, fun i _ _ => ?_⟩
    split
    · have e1 := words_len
      refine ⟨_, _, rfl, rfl, by decide +kernel, by decide +kernel, by omega, ?_⟩
      have e : (T.vl [T.st (D.str (Str.ofString "path")), T.st (D.str (Str.ofString "reached")), T.st (D.str (Str.ofString "ring")), T.st (D.str (Str.ofString "room")), T.st (D.str (Str.ofString "row")), T.st (D.str (Str.ofString "rules")), T.st (D.str (Str.ofString "strike")), T.st (D.str (Str.ofString "up")), T.st (D.str (Str.ofString "walk")), T.st (D.str (Str.ofString "went")), T.st (D.str (Str.ofString "wish")), T.st (D.str (Str.ofString "works"))]).erase = .lst (words2.map D.str) := erase_strs words2
      rw [e]
      walk_at "pw"
      have hw : (List.map D.str (Txt.split wordsText (Str.ofString " ")) ++ List.map D.str words2) = wordsAll.map D.str := by unfold wordsAll; rw [List.map_append]
      have hl : (Txt.split wordsText (Str.ofString " ")).length + words2.length ≤ sizeLine := by decide +kernel
      refine ⟨hl, ?_⟩
      unfold wordsText at hw
      rw [hw]
      walk_at "pw"
      refine ⟨by omega, fun j j0 j1 => ⟨by omega, [.int 0, .int 0, .int j], .inl ?_, by simp, fun d hd => ?_⟩⟩
      · simp [T.erase, erases]
      · obtain ⟨a, ha, rfl⟩ : ∃ a : Nat, a + n ≤ 38 ∧ d = .int a := by
          simp only [List.mem_cons, List.not_mem_nil, or_false] at hd
          rcases hd with rfl | rfl | rfl
          · exact ⟨0, by omega, rfl⟩
          · exact ⟨0, by omega, rfl⟩
          · exact ⟨j.toNat, by omega, by rw [Int.toNat_of_nonneg j0]⟩
        walk_at "pw"
        rw [cutL_mid (by simp; omega), ← List.map_drop, ← List.map_take]
        refine q _ (words_nodup.sublist ((List.take_sublist _ _).trans (List.drop_sublist _ _))) ?_ (fun x hx => words_ok x (List.mem_of_mem_drop (List.mem_of_mem_take hx)))
        rw [List.length_take, List.length_drop]; omega
    · exact rest
  · exact rest

namespace Wk
/-- what the law draws -/
structure Fine (w : Wk) (most bins great : Nat) : Prop where
  nd : w.names.Nodup
  pos : 0 < w.ms.length
  sm : w.ms.length ≤ most
  sb : w.bs.length ≤ bins
  bnd : (w.bs.map (·.name)).Nodup
  ends : ∀ b ∈ w.bs, b.start ∈ w.names ∧ b.goal ∈ w.names
  stk : ∀ b ∈ w.bs, 0 ≤ b.stock ∧ b.stock ≤ great + 2
  rm : ∀ b ∈ w.bs, ∀ r, b.room = some r → 1 ≤ r ∧ b.stock ≤ r ∧ r ≤ great + 10
  tm : ∀ m ∈ w.ms, 0 ≤ m.2 ∧ m.2 ≤ 1000
  oks : ∀ x ∈ w.names, okS x
  okb : ∀ x ∈ w.bs.map (·.name), okS x
/-- no ring is empty -/
def Endless (w : Wk) : Prop := ∃ ord : List Str, ord.Perm w.names ∧ ∀ t ∈ w.ties, t.count = 0 → ixOf ord t.start < ixOf ord t.goal
theorem Fine.ok {w : Wk} {most bins great : Nat} (h : w.Fine most bins great) (h1 : most ≤ 100) (h2 : bins ≤ 100) : w.Ok where
  nd := h.nd
  ne := List.length_pos_iff.mp h.pos
  sm := Nat.le_trans h.sm h1
  sb := Nat.le_trans h.sb h2
  ends := h.ends
  cnt := by
    intro t m
    rcases List.mem_append.mp m with m | m
    · obtain ⟨b, hb, rfl⟩ := List.mem_map.mp m
      exact (h.stk b hb).1
    · obtain ⟨b, hb, e⟩ := List.mem_filterMap.mp m
      unfold roomOf at e
      rw [Option.map_eq_some_iff] at e
      obtain ⟨r, hr, rfl⟩ := e
      have := h.rm b hb r hr
      show 0 ≤ r - b.stock
      omega
  tm := fun m hm => (h.tm m hm).1
  oks := h.oks
  bnd := h.bnd
  okb := h.okb
end Wk
def sp_law_machines : PSp := fun ds R => ∃ n : Nat, ds = [.bx, .int n] ∧ n ≤ 26 ∧ ∀ ms : List (Str × Int), (ms.map (·.1)).Nodup → ms.length = n → (∀ m ∈ ms, 0 ≤ m.2 ∧ m.2 ≤ 1000) → (∀ x ∈ ms.map (·.1), okS x) → R (.tup (ms.map encM))
theorem l_law_machines : ∀ ds R, sp_law_machines ds R → ds.length = 2 := by rintro ds R ⟨m, rfl, _⟩; rfl
def sp_law_works : PSp := fun ds R => ∃ most bins great : Nat, ds = [.bx, .int most, .int bins, .int great] ∧ (0 < most ∧ most ≤ 26 ∧ bins ≤ 25 ∧ 0 < great ∧ great ≤ 1000) ∧ ∀ w : Wk, w.Fine most bins great → R (enc w)
theorem l_law_works : ∀ ds R, sp_law_works ds R → ds.length = 4 := by rintro ds R ⟨a, b, c, rfl, _⟩; rfl
/-- a bin, made lively by an order -/
def live (ord : List Str) (b : Bn) : Bn :=
  let st := if (ixOf ord b.goal : Int) ≤ ixOf ord b.start then max b.stock 1 else b.stock
  ⟨b.name, b.start, b.goal, st, b.room.map fun r => max (max r (st + if (ixOf ord b.start : Int) ≤ ixOf ord b.goal then 1 else 0)) 1⟩
def sp_law_lively : PSp := fun ds R => ∃ (w : Wk) (most bins great : Nat), ds = [.bx, enc w] ∧ (most ≤ 26 ∧ bins ≤ 25) ∧ w.Fine most bins great ∧ ∀ ord : List Str, ord.Perm w.names → R (enc ⟨w.ms, w.bs.map (live ord)⟩)
theorem l_law_lively : ∀ ds R, sp_law_lively ds R → ds.length = 2 := by rintro ds R ⟨a, b, c, e, rfl, _⟩; rfl
def sp_law_endless : PSp := fun ds R => ∃ most bins great : Nat, ds = [.bx, .int most, .int bins, .int great] ∧ (0 < most ∧ most ≤ 26 ∧ bins ≤ 25 ∧ 0 < great ∧ great ≤ 1000) ∧ ∀ w : Wk, w.Fine most bins great → w.Endless → R (enc w)
theorem l_law_endless : ∀ ds R, sp_law_endless ds R → ds.length = 4 := by rintro ds R ⟨a, b, c, rfl, _⟩; rfl
def w_law_machines : SW := (sSeq (sNew 2 (wLst wNil))
    (sSeq (sFor (wItS (wCall sp_law_names (wCons (wV 0) (wCons (wV 1) wNil)))) (.nm 3) (sApp 2 (wTup (wCons (wV 3) (wCons (wCall sp_law_pick (wCons (wV 0) (wCons (wFz (wLst (wCons (wC (.int 0)) (wCons (wC (.int 1)) (wCons (wOp fAdd (wC (.int 1)) (wCall sp_law_take (wCons (wV 0) (wCons (wC (.int 9)) wNil)))) (wCons (wOp fAdd (wC (.int 1)) (wCall sp_law_take (wCons (wV 0) (wCons (wC (.int 9)) wNil)))) (wCons (wCall sp_law_take (wCons (wV 0) (wCons (wC (.int 1001)) wNil))) wNil))))))) wNil))) wNil)))))
    (sRet (wCB fTuple (wCons (wV 2) wNil)))))
def w_law_works : SW := (sSeq (sAsg 4 (wCall sp_law_machines (wCons (wV 0) (wCons (wOp fAdd (wC (.int 1)) (wCall sp_law_take (wCons (wV 0) (wCons (wV 1) wNil)))) wNil))))
    (sSeq (sAsg 5 (wFz (wLc (wItS (wV 4)) (.nm 10) wYes (wNw (wOp fGet (wV 10) (wC (.int 0)))) [10])))
    (sSeq (sNew 6 (wLst wNil))
    (sSeq (sFor (wItS (wCall sp_law_names (wCons (wV 0) (wCons (wCall sp_law_take (wCons (wV 0) (wCons (wOp fAdd (wV 2) (wC (.int 1))) wNil))) wNil)))) (.nm 7) (sSeq (sAsg 8 (wCall sp_law_pick (wCons (wV 0) (wCons (wFz (wLst (wCons (wC (.int 0)) (wCons (wC (.int 0)) (wCons (wC (.int 0)) (wCons (wC (.int 1)) (wCons (wC (.int 2)) (wCons (wCall sp_law_take (wCons (wV 0) (wCons (wV 3) wNil))) wNil)))))))) wNil))))
    (sSeq (sAsg 9 (wCall sp_law_pick (wCons (wV 0) (wCons (wFz (wLst (wCons (wC .non) (wCons (wC .non) (wCons (wCB fMax (wCons (wV 8) (wCons (wC (.int 1)) wNil))) (wCons (wOp fAdd (wCB fMax (wCons (wV 8) (wCons (wC (.int 1)) wNil))) (wCall sp_law_take (wCons (wV 0) (wCons (wC (.int 4)) wNil)))) wNil)))))) wNil))))
    (sApp 6 (wTup (wCons (wV 7) (wCons (wCall sp_law_pick (wCons (wV 0) (wCons (wV 5) wNil))) (wCons (wCall sp_law_pick (wCons (wV 0) (wCons (wV 5) wNil))) (wCons (wV 8) (wCons (wV 9) wNil))))))))))
    (sRet (wTup (wCons (wV 4) (wCons (wCB fTuple (wCons (wV 6) wNil)) wNil))))))))
def w_law_lively : SW := (sSeq (sNew 2 (wLc (wItS (wOp fGet (wV 1) (wC (.int 0)))) (.nm 11) wYes (wNw (wOp fGet (wV 11) (wC (.int 0)))) [11]))
    (sSeq (sNew 3 (wLst wNil))
    (sSeq (sWhile (wTest (wOp fGt (wCB fLen (wCons (wV 2) wNil)) (wC (.int 0)))) (sAppPop 3 2 (wCall sp_law_take (wCons (wV 0) (wCons (wCB fLen (wCons (wV 2) wNil)) wNil)))))
    (sSeq (sNew 4 (wLst wNil))
    (sSeq (sFor (wItS (wOp fGet (wV 1) (wC (.int 1)))) (.tp ((.nm 5) :: ((.nm 6) :: ((.nm 7) :: ((.nm 8) :: ((.nm 9) :: [])))))) (sSeq (sAsg 10 (wOp fSub (wM fIndex (wV 3) (wCons (wV 6) wNil)) (wM fIndex (wV 3) (wCons (wV 7) wNil))))
    (sSeq (sIf (wTest (wOp fGe (wV 10) (wC (.int 0)))) (sAsg 8 (wCB fMax (wCons (wV 8) (wCons (wC (.int 1)) wNil)))) sNext)
    (sSeq (sIf (wTest (wOp fNotN (wV 9) (wC .non))) (sAsg 9 (wCB fMax (wCons (wV 9) (wCons (wOp fAdd (wV 8) (wCB fInt (wCons (wOp fLe (wV 10) (wC (.int 0))) wNil))) (wCons (wC (.int 1)) wNil))))) sNext)
    (sApp 4 (wTup (wCons (wV 5) (wCons (wV 6) (wCons (wV 7) (wCons (wV 8) (wCons (wV 9) wNil)))))))))))
    (sRet (wTup (wCons (wOp fGet (wV 1) (wC (.int 0))) (wCons (wCB fTuple (wCons (wV 4) wNil)) wNil)))))))))
def w_law_endless : SW := (sRet (wCall sp_law_lively (wCons (wV 0) (wCons (wCall sp_law_works (wCons (wV 0) (wCons (wV 1) (wCons (wV 2) (wCons (wV 3) wNil))))) wNil))))

theorem pick_of {row : List D} {R : D → Prop} (h : row ≠ []) (q : ∀ d ∈ row, R d) : sp_law_pick [.bx, .lst row] R := ⟨row, .inl rfl, h, q⟩
theorem p_law_machines : ∀ ds R, sp_law_machines ds R → w_law_machines { nx := fun _ => R .non, rt := R } (startE 4 ds) := by
  rintro ds R ⟨n, rfl, hn, q⟩
  unfold w_law_machines
  walk_at "pw"
  refine ⟨by omega, n, rfl, hn, fun xs nd hl hxo => ?_⟩
  walk_at "pw"
  refine forW_inv D.str (fun pre env => ∃ (ms : List (Str × Int)) (j : Option T), env = [some (.st .bx), some (.st (.int n)), some (.vl (ms.map fun m => .st (encM m))), j] ∧ ms.map (·.1) = pre ∧ ∀ m ∈ ms, 0 ≤ m.2 ∧ m.2 ≤ 1000) ⟨[], _, rfl, rfl, fun m h => by cases h⟩ ?_ ?_
  · rintro pre x post env N e ⟨ms, j, rfl, h1, h2⟩ hN
    walk_at "pw"
    have : ms.length ≤ n := by
      have := congrArg List.length h1
      have := congrArg List.length e
      simp at *
      omega
    refine ⟨by omega, by omega, fun a a0 a1 => ⟨by omega, fun b b0 b1 => ⟨by omega, fun c c0 c1 => ⟨by omega, ?_⟩⟩⟩⟩
    have ee : (T.vl [T.st (D.int 0), T.st (D.int 1), T.st (D.int (1 + a)), T.st (D.int (1 + b)), T.st (D.int c)]).erase = .lst ([0, 1, 1 + a, 1 + b, c].map D.int) := by simp [T.erase, erases]
    rw [ee]
    refine pick_of (by simp) fun d hd => ?_
    obtain ⟨t, ht, rfl⟩ := List.mem_map.mp hd
    have : 0 ≤ t ∧ t ≤ 1000 := by
      simp only [List.mem_cons, List.not_mem_nil, or_false] at ht
      omega
    refine ⟨by omega, hN _ ⟨ms ++ [(x, t)], _, by rw [List.map_append]; rfl, by simp [h1], fun m hm => ?_⟩⟩
    rcases List.mem_append.mp hm with hm | hm
    · exact h2 m hm
    · rw [List.mem_singleton.mp hm]; exact this
  · rintro env ⟨ms, j, rfl, h1, h2⟩
    walk_at "pw"
    have e : (ms.map fun m => T.st (encM m)) = (ms.map encM).map T.st := by rw [List.map_map]; rfl
    rw [e, fTuple_vl]
    exact ⟨_, rfl, q ms (by rw [h1]; exact nd) (by have := congrArg List.length h1; simp at this; omega) h2 (by rw [h1]; exact hxo)⟩
theorem p_law_works : ∀ ds R, sp_law_works ds R → w_law_works { nx := fun _ => R .non, rt := R } (startE 11 ds) := by
  rintro ds R ⟨most, bins, great, rfl, ⟨m0, m1, b1, g0, g1⟩, q⟩
  unfold w_law_works
  walk_at "pw"
  refine ⟨by omega, fun i i0 i1 => ⟨(1 + i).toNat, by rw [Int.toNat_of_nonneg (by omega)], by omega, fun ms mnd ml mt mo => ?_⟩⟩
  walk_at "pw"
  refine ⟨by omega, compW_map encM (fun m => .st (.str m.1)) (fun m _ R hR => ?_) ?_⟩
  · unfold encM; walk_at "pw"; exact hR
  rw [erase_vl (f := fun m : Str × Int => D.str m.1)]
  have hne : ms.map (fun m : Str × Int => D.str m.1) ≠ [] := by
    intro e
    have := congrArg List.length e
    simp at this
    rw [this] at ml
    simp at ml
    omega
  refine ⟨by omega, by omega, fun n n0 n1 => ⟨n.toNat, by rw [Int.toNat_of_nonneg n0], by omega, fun xs nd hl hxo => ?_⟩⟩
  walk_at "pw"
  refine forW_inv D.str (fun pre env => ∃ (bs : List Bn) (j7 j8 j9 : Option T), env = [some (.st .bx), some (.st (.int most)), some (.st (.int bins)), some (.st (.int great)), some (.st (.tup (ms.map encM))), some (.st (.lst (ms.map fun m => D.str m.1))), some (.vl (bs.map fun m => .st (encB m))), j7, j8, j9, none] ∧ bs.map (·.name) = pre ∧
    (∀ b ∈ bs, b.start ∈ (ms.map fun m : Str × Int => m.1) ∧ b.goal ∈ (ms.map fun m : Str × Int => m.1)) ∧ (∀ b ∈ bs, 0 ≤ b.stock ∧ b.stock ≤ great + 2) ∧ (∀ b ∈ bs, ∀ r, b.room = some r → 1 ≤ r ∧ b.stock ≤ r ∧ r ≤ great + 10)) ⟨[], _, _, _, rfl, rfl, by simp, by simp, by simp⟩ ?_ ?_
  · rintro pre x post env N e ⟨bs, j7, j8, j9, rfl, h1, h2, h3, h4⟩ hN
    walk_at "pw"
    have : bs.length ≤ 25 := by
      have := congrArg List.length h1
      have := congrArg List.length e
      simp at *
      omega
    refine ⟨by omega, fun a a0 a1 => ⟨by omega, ?_⟩⟩
    have ee : (T.vl [T.st (D.int 0), T.st (D.int 0), T.st (D.int 0), T.st (D.int 1), T.st (D.int 2), T.st (D.int a)]).erase = .lst ([0, 0, 0, 1, 2, a].map D.int) := by simp [T.erase, erases]
    rw [ee]
    refine pick_of (by simp) fun d hd => ?_
    obtain ⟨t, ht, rfl⟩ := List.mem_map.mp hd
    have ht : 0 ≤ t ∧ t ≤ great + 2 := by
      simp only [List.mem_cons, List.not_mem_nil, or_false] at ht
      omega
    walk_at "pw"
    refine ⟨by omega, fun c c0 c1 => ⟨by omega, ?_⟩⟩
    have ee : (T.vl [T.st D.non, T.st D.non, T.st (D.int (max t 1)), T.st (D.int (max t 1 + c))]).erase = .lst ([none, none, some (max t 1), some (max t 1 + c)].map encR) := by simp [T.erase, erases, encR]
    rw [ee]
    refine pick_of (by simp) fun d hd => ?_
    obtain ⟨r, hr, rfl⟩ := List.mem_map.mp hd
    have hr : ∀ u, r = some u → 1 ≤ u ∧ t ≤ u ∧ u ≤ great + 10 := by
      intro u hu
      subst hu
      simp only [List.mem_cons, List.not_mem_nil, or_false, reduceCtorEq, false_or, Option.some.injEq] at hr
      omega
    refine ⟨by omega, pick_of hne fun d hd => pick_of hne fun d2 hd2 => ⟨by omega, ?_⟩⟩
    obtain ⟨m1, hm1, rfl⟩ := List.mem_map.mp hd
    obtain ⟨m2, hm2, rfl⟩ := List.mem_map.mp hd2
    refine hN _ ⟨bs ++ [⟨x, m1.1, m2.1, t, r⟩], _, _, _, by rw [List.map_append]; rfl, by simp [h1], fun b hb => ?_, fun b hb => ?_, fun b hb => ?_⟩ <;>
    · rcases List.mem_append.mp hb with hb | hb
      · first | exact h2 b hb | exact h3 b hb | exact h4 b hb
      · rw [List.mem_singleton.mp hb]
        first | exact ⟨List.mem_map_of_mem hm1, List.mem_map_of_mem hm2⟩ | exact ht | exact hr
  · rintro env ⟨bs, j7, j8, j9, rfl, h1, h2, h3, h4⟩
    walk_at "pw"
    have e : (bs.map fun m => T.st (encB m)) = (bs.map encB).map T.st := by rw [List.map_map]; rfl
    rw [e, fTuple_vl]
    walk_at "pw"
    have hb := congrArg List.length h1
    rw [List.length_map, hl] at hb
    refine ⟨by decide, q ⟨ms, bs⟩ ⟨mnd, ?_, ?_, ?_, by rw [h1]; exact nd, h2, h3, h4, mt, mo, by rw [h1]; exact hxo⟩⟩
    · show 0 < ms.length; omega
    · show ms.length ≤ most; omega
    · show bs.length ≤ bins; omega
def szOf (i : Nat) (env : Env) : Nat := match env[i]? with
  | some (some (T.vl ts)) => ts.length
  | _ => 0
theorem live_fine {w : Wk} {most bins great : Nat} (h : w.Fine most bins great) (ord : List Str) : (⟨w.ms, w.bs.map (live ord)⟩ : Wk).Fine most bins great where
  nd := h.nd
  pos := h.pos
  sm := h.sm
  sb := by rw [List.length_map]; exact h.sb
  bnd := by rw [List.map_map]; exact h.bnd
  ends := by
    intro b hb
    obtain ⟨c, hc, rfl⟩ := List.mem_map.mp hb
    exact h.ends c hc
  stk := by
    intro b hb
    obtain ⟨c, hc, rfl⟩ := List.mem_map.mp hb
    have := h.stk c hc
    unfold live
    dsimp only
    split <;> omega
  rm := by
    intro b hb r hr
    obtain ⟨c, hc, rfl⟩ := List.mem_map.mp hb
    have h1 := h.stk c hc
    unfold live at hr ⊢
    dsimp only at hr ⊢
    rw [Option.map_eq_some_iff] at hr
    obtain ⟨u, hu, rfl⟩ := hr
    have h2 := h.rm c hc u hu
    split <;> split <;> omega
  tm := h.tm
  oks := h.oks
  okb := by rw [List.map_map]; exact h.okb
theorem live_endless {w : Wk} {ord : List Str} (hp : ord.Perm w.names) : (⟨w.ms, w.bs.map (live ord)⟩ : Wk).Endless := by
  refine ⟨ord, hp, fun t ht e => ?_⟩
  rcases List.mem_append.mp ht with ht | ht
  · obtain ⟨b, hb, rfl⟩ := List.mem_map.mp ht
    obtain ⟨c, hc, rfl⟩ := List.mem_map.mp hb
    unfold Wk.partOf live at e ⊢
    dsimp only at e ⊢
    split at e <;> omega
  · obtain ⟨b, hb, e2⟩ := List.mem_filterMap.mp ht
    obtain ⟨c, hc, rfl⟩ := List.mem_map.mp hb
    unfold Wk.roomOf at e2
    rw [Option.map_eq_some_iff] at e2
    obtain ⟨u, hu, rfl⟩ := e2
    unfold live at hu e ⊢
    dsimp only at hu e ⊢
    rw [Option.map_eq_some_iff] at hu
    obtain ⟨v, hv, rfl⟩ := hu
    by_cases hh : (ixOf ord c.start : Int) ≤ ixOf ord c.goal
    · rw [if_pos hh] at e; split at e <;> omega
    · omega
theorem map_eraseIdx {α β : Type} (f : α → β) : ∀ (xs : List α) (i : Nat), (xs.map f).eraseIdx i = (xs.eraseIdx i).map f
  | [], _ => rfl
  | _ :: _, 0 => rfl
  | x :: xs, i + 1 => by simp [List.eraseIdx, map_eraseIdx f xs i]
theorem eraseIdx_perm {α : Type} : ∀ (xs : List α) (i : Nat) (h : i < xs.length), (xs[i] :: xs.eraseIdx i).Perm xs
  | x :: xs, 0, _ => .refl _
  | x :: xs, i + 1, h => by
    have := eraseIdx_perm xs i (by simpa using h)
    simp only [List.eraseIdx, List.getElem_cons_succ]
    exact (List.Perm.swap _ _ _).trans (this.cons x)
theorem p_law_lively : ∀ ds R, sp_law_lively ds R → w_law_lively { nx := fun _ => R .non, rt := R } (startE 12 ds) := by
  rintro ds R ⟨w, most, bins, great, rfl, ⟨hm, hb⟩, h, q⟩
  unfold w_law_lively enc
  walk_at "pw"
  have sm := h.sm
  have sb := h.sb
  have hnl : w.names.length = w.ms.length := by unfold Wk.names; simp
  refine ⟨by omega, compW_map encM (fun m => .st (.str m.1)) (fun m _ R hR => ?_) ?_⟩
  · unfold encM; walk_at "pw"; exact hR
  refine ⟨by omega, ?_⟩
  refine while_inv (fun env => ∃ (left ord : List Str), env = [some (.st .bx), some (.st (enc w)), some (.vl (left.map fun x => .st (.str x))), some (.vl (ord.map fun x => .st (.str x))), none, none, none, none, none, none, none, none] ∧ (ord ++ left).Perm w.names) (szOf 2) ⟨w.names, [], ?_, .refl _⟩ ?_
  · unfold enc Wk.names; rw [List.map_map]; rfl
  rintro env N ⟨left, ord, rfl, hp⟩ hN
  have hlen := hp.length_eq
  rw [List.length_append] at hlen
  unfold enc
  walk_at "pw"
  split
  · refine ⟨left.map D.str, by rw [List.map_map]; rfl, by omega, by rw [List.length_map]; omega, by omega, fun i i0 i1 => ⟨by omega, ?_⟩⟩
    have hi : i.toNat < left.length := by omega
    have e1 : (left.map D.str).eraseIdx i.toNat = (left.eraseIdx i.toNat).map D.str := by
      exact map_eraseIdx _ _ _
    refine ⟨.str left[i.toNat], by rw [List.getElem?_map, List.getElem?_eq_getElem hi]; rfl, hN _ ⟨left.eraseIdx i.toNat, ord ++ [left[i.toNat]], ?_, ?_⟩ ?_⟩
    · rw [e1, List.map_map, List.map_append]; rfl
    · refine List.Perm.trans ?_ hp
      rw [List.append_assoc]
      refine List.Perm.append_left _ ?_
      exact eraseIdx_perm _ _ hi
    · show ((left.map D.str).eraseIdx i.toNat |>.map T.st).length < (left.map fun x => T.st (.str x)).length
      rw [List.length_map, List.length_eraseIdx, List.length_map, List.length_map, if_pos hi]
      omega
  · have : left = [] := by
      cases left with
      | nil => rfl
      | cons _ _ => rename_i hc; simp at hc
    subst this
    rw [List.append_nil] at hp
    refine ⟨by omega, ?_⟩
    refine forW_inv encB (fun pre env => ∃ (j5 j6 j7 j8 j9 j10 : Option T), env = [some (.st .bx), some (.st (enc w)), some (.vl []), some (.vl (ord.map fun x => .st (.str x))), some (.vl (pre.map fun b => .st (encB (live ord b)))), j5, j6, j7, j8, j9, j10, none]) ⟨_, _, _, _, _, _, rfl⟩ ?_ ?_
    · rintro pre b post env N e ⟨j5, j6, j7, j8, j9, j10, rfl⟩ hN
      have hb : b ∈ w.bs := by rw [e]; simp
      have hs : b.start ∈ ord := hp.mem_iff.mpr (h.ends b hb).1
      have hg : b.goal ∈ ord := hp.mem_iff.mpr (h.ends b hb).2
      rw [show encB b = D.tup [.str b.name, .str b.start, .str b.goal, .int b.stock, encR b.room] from rfl]
      unfold enc at hN ⊢
      walk_at "pw"
      refine ⟨⟨_, rfl⟩, fIndex_strsV hs ⟨⟨_, rfl⟩, fIndex_strsV hg ?_⟩⟩
      have hl : pre.length ≤ 25 := by have := congrArg List.length e; simp at this; omega
      have key : ∀ d : D, d = encB (live ord b) → ∀ j5 j6 j7 j8 j9 j10 : Option T, N [some (.st .bx), some (.st (.tup [.tup (w.ms.map encM), .tup (w.bs.map encB)])), some (.vl []), some (.vl (ord.map fun x => .st (.str x))), some (.vl ((pre.map fun b => .st (encB (live ord b))) ++ [.st d])), j5, j6, j7, j8, j9, j10, none] := by
        intro d hd j5 j6 j7 j8 j9 j10
        exact hN _ ⟨j5, j6, j7, j8, j9, j10, by rw [hd, List.map_append]; rfl⟩
      have ev : encB (live ord b) = D.tup [.str b.name, .str b.start, .str b.goal, .int (live ord b).stock, encR (live ord b).room] := rfl
      rw [ev] at key
      unfold live at key
      dsimp only at key
      cases hr : b.room with
      | none =>
        rw [hr] at key
        unfold encR at key ⊢
        walk_at "pw"
        split
        · rename_i h1
          rw [if_pos (by omega)] at key
          exact ⟨by omega, by omega, key _ rfl _ _ _ _ _ _⟩
        · rename_i h1
          rw [if_neg (by omega)] at key
          exact ⟨by omega, by omega, key _ rfl _ _ _ _ _ _⟩
      | some r =>
        rw [hr] at key
        unfold encR at key ⊢
        walk_at "pw"
        split
        · rename_i h1
          rw [if_pos (by omega)] at key
          refine ⟨by omega, by omega, key _ ?_ _ _ _ _ _ _⟩
          by_cases h2 : (ixOf ord b.start : Int) ≤ ixOf ord b.goal
          · rw [Option.map_some, if_pos h2]; simp [show (ixOf ord b.start : Int) - ixOf ord b.goal ≤ 0 by omega]
          · rw [Option.map_some, if_neg h2]; simp [show ¬ (ixOf ord b.start : Int) - ixOf ord b.goal ≤ 0 by omega]
        · rename_i h1
          rw [if_neg (by omega)] at key
          refine ⟨by omega, by omega, key _ ?_ _ _ _ _ _ _⟩
          by_cases h2 : (ixOf ord b.start : Int) ≤ ixOf ord b.goal
          · rw [Option.map_some, if_pos h2]; simp [show (ixOf ord b.start : Int) - ixOf ord b.goal ≤ 0 by omega]
          · rw [Option.map_some, if_neg h2]; simp [show ¬ (ixOf ord b.start : Int) - ixOf ord b.goal ≤ 0 by omega]
    · rintro env ⟨j5, j6, j7, j8, j9, j10, rfl⟩
      unfold enc
      walk_at "pw"
      have e : (w.bs.map fun b => T.st (encB (live ord b))) = ((w.bs.map (live ord)).map encB).map T.st := by rw [List.map_map, List.map_map]; rfl
      rw [e, fTuple_vl]
      walk_at "pw"
      exact ⟨by omega, q ord hp⟩
theorem p_law_endless : ∀ ds R, sp_law_endless ds R → w_law_endless { nx := fun _ => R .non, rt := R } (startE 4 ds) := by
  rintro ds R ⟨most, bins, great, rfl, h, q⟩
  unfold w_law_endless
  walk_at "pw"
  refine ⟨most, bins, great, rfl, h, fun w hw => ?_⟩
  walk_at "pw"
  exact ⟨w, most, bins, great, rfl, ⟨h.2.1, h.2.2.1⟩, hw, fun ord hp => q _ (live_fine hw ord) (live_endless hp)⟩
end Pw
namespace Pw
open PySem PySem.Spec PyProof.Rows L2
/-! ### the law's box -/
theorem key_ne : ((.inr (Str.ofString "row") : Key)) ≠ .inr (Str.ofString "at") := by decide
theorem val_row {x y : V} : some x = valV [((.inr "row" : Key), x), (.inr "at", y)] (.inr "row") := by
  unfold valV
  simp
theorem val_at {x y : V} : some y = valV [((.inr "row" : Key), x), (.inr "at", y)] (.inr "at") := by
  unfold valV
  rw [List.find?_cons_of_neg (by simpa using key_ne)]
  simp
theorem put_at {x y z : V} : putK [((.inr "row" : Key), x), (.inr "at", y)] (.inr "at") z = [(.inr "row", x), (.inr "at", z)] := by
  unfold putK
  simp
  intro e
  exact absurd (congrArg Sum.inr e) key_ne
section
variable {K : PySem.W.Frag} {b : Option Addr} {F H F0 H0 : Hp} {σ : L2.St} {env : Env}
theorem Ok.box (O : Ok K b F0 H0 F H σ env) (e : env[0]? = some (some (.st .bx))) : ∃ a, b = some a ∧ σ[0]? = some (some (.ref a)) ∧ BoxAt K F H a := by
  obtain ⟨v, f, h1, h2, _⟩ := O.get e
  cases h2 with
  | st h2 =>
    cases h2 with
    | bx hb => exact ⟨_, hb, h1, O.bx _ hb⟩
def wBxAt : EW := fun env Q => env[0]? = some (some (.st .bx)) ∧ ∀ n : Int, 0 ≤ n → Q (.st (.int n))
theorem so_bxAt : SoE K (tOp (rGetA K) (tVar 0) (tC (.str "at"))) wBxAt := fun b F0 H0 F H σ env O Q' ⟨e, h⟩ Q q => by
  obtain ⟨a, hb, hs, hF, r, ns, n, hH, hsq, hne, hl, hn⟩ := O.box e
  exact ⟨_, hs, .inr ⟨a, .int n, rfl, .inl ⟨_, .inr "at", .inl hH, rfl, val_at⟩, q _ _ F H O.fit.refl (.st (.int n)) (h n hn)⟩⟩
def wBxLen : EW := fun env Q => env[0]? = some (some (.st .bx)) ∧ ∀ n : Nat, 0 < n → n ≤ 1000 → Q (.st (.int n))
theorem so_bxLen : SoE K (tCB (rLenB K) (tCons (tOp (rGetA K) (tVar 0) (tC (.str "row"))) tNil)) wBxLen := fun b F0 H0 F H σ env O Q' ⟨e, h⟩ Q q => by
  obtain ⟨a, hb, hs, hF, r, ns, n, hH, hsq, hne, hl, hn⟩ := O.box e
  refine ⟨_, hs, .inr ⟨a, .ref r, rfl, .inl ⟨_, .inr "row", .inl hH, rfl, val_row⟩, .ref r, ns.length, rfl, .inl ⟨_, O.same.seq hsq, by simp⟩, q _ _ F H O.fit.refl (.st (.int _)) (h _ (List.length_pos_iff.mpr hne) hl)⟩⟩
/-- box['row'][int(at) % len(box['row'])] -/
def wBxNum (i : Nat) : EW := fun env Q => env[0]? = some (some (.st .bx)) ∧ (∃ n : Int, env[i]? = some (some (.st (.int n)))) ∧ ∀ n : Int, Q (.st (.int n))
theorem so_bxNum {i : Nat} : SoE K (tOp (rGetA K) (tOp (rGetA K) (tVar 0) (tC (.str "row"))) (tOp (rI (fun _ j => 0 < j) fun i j => .int (i % j)) (tCB rIntB (tCons (tVar i) tNil)) (tCB (rLenB K) (tCons (tOp (rGetA K) (tVar 0) (tC (.str "row"))) tNil)))) (wBxNum i) := fun b F0 H0 F H σ env O Q' ⟨e, ⟨m, em⟩, h⟩ Q q => by
  obtain ⟨a, hb, hs, hF, r, ns, n, hH, hsq, hne, hl, hn⟩ := O.box e
  obtain ⟨v, f, h1, h2, h3⟩ := O.get em
  have hv : v = .int m := Got.int ⟨f, h2, h3⟩
  subst hv
  have hp : 0 < ns.length := List.length_pos_iff.mpr hne
  have m0 : 0 ≤ m % (ns.length : Int) := Int.emod_nonneg _ (by omega)
  have m1 : m % (ns.length : Int) < ns.length := Int.emod_lt_of_pos _ (by omega)
  have hsq' := O.same.seq hsq
  refine ⟨_, hs, .inr ⟨a, .ref r, rfl, .inl ⟨_, .inr "row", .inl hH, rfl, val_row⟩, _, h1, .inl ⟨m, rfl, ?_⟩⟩⟩
  refine ⟨_, hs, .inr ⟨a, .ref r, rfl, .inl ⟨_, .inr "row", .inl hH, rfl, val_row⟩, .ref r, ns.length, rfl, .inl ⟨_, hsq', by simp⟩, ?_⟩⟩
  refine ⟨m, ns.length, rfl, rfl, by omega, ?_⟩
  have at1 : L2.atI (ns.map V.int) (m % (ns.length : Int)) = some (.int (ns[(m % (ns.length : Int)).toNat]'(by omega))) := by
    rw [atI_map, atI_lt m0 (by omega)]; rfl
  exact .inl (.inl ⟨r, _, _, _, rfl, rfl, hsq', at1, q _ _ F H O.fit.refl (.st (.int _)) (h _)⟩)
/-- box['at'] = e -/
def sBxSet (we : EW) : SW := fun E env => env[0]? = some (some (.st .bx)) ∧ we env fun t => ∃ n : Int, t = .st (.int n) ∧ 0 ≤ n ∧ E.nx env
theorem so_bxSet {te : TE} {we : EW} (he : SoE K te we) : SoS K (tAsg te (gSub (tVar 0) (tC (.str "at")) rSetA)) (sBxSet we) := fun b F0 H0 F H σ env O E ⟨e, h⟩ D q =>
  he _ _ _ _ _ _ _ O _ h _ fun v t F1 H1 S1 g1 ⟨n, et, hn, h2⟩ => by
    subst et
    have hv := g1.int
    subst hv
    have O1 := O.step S1
    obtain ⟨a, hb, hs, hF, r, ns, m, hH, hsq, hne, hl, hm⟩ := O1.box e
    refine ⟨_, hs, .inr ⟨a, _, rfl, .inl ⟨_, .inr "at", hH, rfl, (by decide : 2 < sizeLine), rfl⟩, ?_⟩⟩
    rw [put_at]
    obtain ⟨fp, rr, nd, kk⟩ := O1.ev
    have hup : ∀ c o, c ≠ a → H1 c = some o → upd H1 a (.dK [(.inr "row", .ref r), (.inr "at", .int n)]) c = some o := fun c o hc ho => by rw [upd_ne hc]; exact ho
    have bx' : BoxAt K F1 (upd H1 a (.dK [(.inr "row", .ref r), (.inr "at", .int n)])) a := ⟨hF, r, ns, n, upd_same, hsq, hne, hl, hn⟩
    refine q.nx F1 _ σ env S1.ff ⟨⟨O1.st.ff, fun c o ho => ?_, fun c o ho nb => ?_, fun c o ho => ?_, O1.st.fk, fun c ec _ => ?_⟩, fun c ec => ?_, fp, rr.keep (fun _ _ z => z) (fun c m => ⟨rfl, ?_⟩), nd, kk⟩ h2
    · by_cases hc : c = a
      · subst hc; rw [hF] at ho; cases ho
      · exact hup c o hc (O1.st.sub c o ho)
    · exact hup c o (fun hc => nb (by rw [hc]; exact hb)) (O1.st.hh c o ho nb)
    · obtain ⟨o', ho'⟩ := O1.st.dm c o ho
      by_cases hc : c = a
      · subst hc; exact ⟨_, upd_same⟩
      · exact ⟨o', hup c o' hc ho'⟩
    · rw [hb] at ec; cases ec; exact bx'
    · rw [hb] at ec; cases ec; exact bx'
    · rw [upd_ne]
      intro hc
      exact (kk c m).2 (by rw [hc]; exact hb)
end
local macro_rules | `(tactic| walk_at "pw") => `(tactic| simp only [wV, wC, wOp, wUn, wTest, wAnd, wOr, wNot, wTru, wIf, wNil, wCons, wTup, wLst, wFz, wNw, wDk, wDt, wCB, wM, wM1, wCall, wGet2, wSl, wSo, wNo, wRev, wItS, wRg1, wRg2, wRg3, wEnum, wLc, wDc, wDisp, wPairs, wYes, sNext, sSeq, sAsg, sNew, sAsgT, sFrz, sDrop, sRet, sRetV, sRetN, sIf, sFor, sAugI, sApp, sSet, sSet2, sApp2, sDAug, sAppPop, sSdApp, sExt, sNever, setT_nm, setT_tp, setTs_nil, setTs_cons, T.it?, T.il?, plainL, startE, wipeE, List.map_cons, List.map_nil, List.length_cons, List.length_nil, List.replicate_succ, List.replicate_zero, List.cons_append, List.nil_append, List.append_nil, List.getElem?_cons_zero, List.getElem?_cons_succ, List.set_cons_zero, List.set_cons_succ, Option.some.injEq, T.st.injEq, T.vl.injEq, T.vk.injEq, D.tup.injEq, D.lst.injEq, D.int.injEq, D.str.injEq, D.bl.injEq, List.cons.injEq, exists_eq', exists_eq, Int.toNat_natCast, rng_eq, List.length_map, List.length_range, exists_eq_left', exists_eq_left, exists_and_left, and_true, true_and, Option.bind_some, Option.map_some, fGet_tup, fGet_lst, fGet_vl, fGet_str, fGet_dk, fGet_vk, fII_st, fAdd_int, fAdd_str, fAdd_lst, fAdd_lv, fEqA_int, fEqA_str, fNotN_non, fNotN_int, fIsN_non, fIsN_int, fLen_lst, fLen_tup, fLen_vl, fLen_str, dl_strN, dl_lst, reduceCtorEq, false_and, and_false, exists_false, false_or, or_false, fInt_int, fInt_bl, fTuple_lst, fTuple_vl, fTuple_tup, fList_tup, fList_lst, fMax_2, fMax_3, fMin_2, atI_0, atI_1, atI_2, atI_3, atI_4, erase_st, decide_eq_true_eq, Bool.false_eq_true, if_true, if_false, take_iff, ite_true, ite_false])
def w_law_take : SW := (sSeq (sAsg 2 wBxAt) (sSeq (sBxSet (wOp fAdd (wV 2) (wC (.int 1)))) (sSeq (sAsg 3 (wBxNum 2)) (sRet (wOp fMod (wCB fInt (wCons (wOp fAdd (wV 3) (wOp fMul (wC (.int 104729)) (wOp fDiv (wV 2) wBxLen))) wNil)) (wV 1))))))
theorem p_law_take : ∀ ds R, sp_law_take ds R → w_law_take { nx := fun _ => R .non, rt := R } (startE 4 ds) := by
  rintro ds R ⟨many, rfl, hm, q⟩
  unfold w_law_take
  walk_at "pw"
  refine ⟨rfl, fun n hn => ⟨_, rfl, rfl, ?_⟩⟩
  walk_at "pw"
  refine ⟨by omega, rfl, ⟨_, rfl⟩, fun k => ⟨_, rfl, ?_⟩⟩
  refine ⟨rfl, fun l l0 l1 => ?_⟩
  unfold fDiv fMul
  walk_at "pw"
  refine ⟨⟨by omega, by omega⟩, .inl ⟨by decide, by decide⟩, ?_⟩
  exact ⟨hm, q _ (Int.emod_nonneg _ (by omega)) (Int.emod_lt_of_pos _ hm)⟩
/-! ### the box is made; the law behind it -/
def spBox (K : PySem.W.Frag) : Sp := fun vs H Q _ => ∃ (a : Addr) (ns : List Int), vs = [.ref a] ∧ SqL K H a (ns.map V.int) ∧ ns.length ≤ 63 ∧ ∀ p F' H', Stp K none H H F' H' → BoxAt K F' H' p → Q (.ref p) H'
def spLaw (K : PySem.W.Frag) : Sp := fun vs H Q _ => ∃ (a : Addr) (ns : List Int), vs = [.ref a] ∧ SqL K H a (ns.map V.int) ∧ ns.length ≤ 63 ∧ ∀ H', Q (.bl true) H'
def IsBox (t : T) : Prop := ∃ xs : List Int, xs ≠ [] ∧ xs.length ≤ 1000 ∧ t = .vk [((.inr "row" : Key), .st (.lst (xs.map D.int))), (.inr "at", .st (.int 0))]
theorem reps_ints {K : PySem.W.Frag} {b : Option Addr} {F : Hp} : ∀ {vs : List V} {xs : List Int}, Reps K b F vs (xs.map D.int) → vs = xs.map V.int
  | _, [], h => by cases h; rfl
  | _, x :: xs, h => by
    cases h with
    | cons h r => rw [h.inv_int, reps_ints r]; rfl
theorem IsBox.at {K : PySem.W.Frag} {b : Option Addr} {F H : Hp} {v : V} {t : T} {f : List Addr} (h : RepT K b F H v t f) (e : IsBox t) : ∃ p, v = .ref p ∧ BoxAt K F H p := by
  obtain ⟨xs, h1, h2, rfl⟩ := e
  cases h with
  | @vk a kvs es f hF hH hk hr =>
    match kvs, hk, hr with
    | [(k1, v1), (k2, v2)], hk, hr =>
      simp at hk
      obtain ⟨rfl, rfl⟩ := hk
      have hr : RepTs K b F H [v1, v2] [.st (.lst (xs.map D.int)), .st (.int 0)] f := hr
      cases hr with
      | cons r1 r2 =>
        cases r2 with
        | cons r2 _ =>
          have e1 := Got.inv_st ⟨_, r1, fun a m => by cases r1; cases m⟩
          have e2 := Got.inv_st ⟨_, r2, fun a m => by cases r2; cases m⟩
          obtain ⟨r, vs, rfl, g1, g2⟩ := e1.inv_lst
          rw [e2.inv_int] at hH
          rw [reps_ints g2] at g1
          exact ⟨a, rfl, hF, r, xs, 0, hH, .inl (.inl g1), h1, h2, Int.le_refl _⟩
    | [], hk, _ => simp at hk
    | [_], hk, _ => simp at hk
    | _ :: _ :: _ :: _, hk, _ => simp at hk
section
variable {P : Program} {w : World} {K : PySem.W.Frag} {mg : Str → Option Value} {base : Heap} {x qual : Str} {st : Stmt} {fa : Addr} {fd : FuncData} {N : List Str} {k : Nat} {wS : SW}
theorem fn_box (Fn : Fun K x qual st fa fd) (S : FnScope N ["script"] (defScope st))
    (body : ∀ (cdv : Value) (A : Around) (outer : List PySem.Env) (s : Shared) (H : Hp) (E : XK), Room k (A.deeper (envOfC qual (defScope st) s.heap.objs.size fa cdv)) → ∃ t, PSs (cxOf CX0 P w K mg base N qual (defScope st) fa cdv A outer s H E).nox (defBody st) t ∧ SoS K t wS)
    (pure : ∀ ns : List Int, ns.length ≤ 63 → wS { nx := fun _ => False, rt := fun _ => False, rv := IsBox } (startE N.length [.scr ns])) : FnOk P w K mg base CX0 (k + 1) fa fd ["script"] (spBox K) := by
  refine Fn.ok S (fun vs H Q E h => ?_) (fun cdv A outer s H vs Q E hr h => ?_)
  · obtain ⟨a, ns, rfl, _⟩ := h; rfl
  · obtain ⟨a, ns, rfl, hs, hl, q⟩ := h
    obtain ⟨t, pt, so⟩ := body cdv A outer s H E hr
    have st0 : Stp K none H H H H := .refl fun _ _ h => h
    have O : Ok K none H H H H (L2.start N [.ref a]) (startE N.length [.scr ns]) := by
      refine ⟨st0, (fun a e => by cases e), [], ?_, List.nodup_nil, (fun a m => by cases m)⟩
      exact EnvR.starts (.cons (.scr hs) .nil)
    refine ⟨t, pt, so none H H H H _ _ O _ (pure ns hl) _ ⟨fun _ _ _ _ _ _ z => z.elim, fun _ _ _ _ _ _ z => z.elim, fun _ _ _ _ _ _ z => z.elim, fun _ _ _ _ _ _ z => z.elim, fun v t f F' H' S' r' nf nw z => ?_⟩⟩
    obtain ⟨p, rfl, bx⟩ := IsBox.at r' z
    exact q p F' H' S' bx
def lawE (n : Nat) : Env := none :: some (.st .bx) :: List.replicate (n - 2) none
theorem lawR {K : PySem.W.Frag} {b : Option Addr} {F H : Hp} : ∀ (n : Nat) (x : Option V), EnvR K b F H (List.replicate n x) (List.replicate n none) []
  | 0, _ => .nil
  | n + 1, x => .no (lawR n x)
theorem fn_law {N2 : List Str} {b1 : Str} (Fn : Fun K x qual st fa fd) (S : FnScope ("script" :: b1 :: N2) ["script"] (defScope st))
    (body : ∀ (cdv : Value) (A : Around) (outer : List PySem.Env) (s : Shared) (H : Hp) (E : XK), Room k (A.deeper (envOfC qual (defScope st) s.heap.objs.size fa cdv)) → ∃ t, PSs (cxOf CX0 P w K mg base ("script" :: b1 :: N2) qual (defScope st) fa cdv A outer s H E).nox (defBody st) (tSeq (tAsg (tCall (spBox K) [] E0 (tCons (tVar 0) tNil)) (gName 1)) t) ∧ SoS K t wS)
    (pure : wS { nx := fun _ => False, rt := fun d => d = .bl true } (lawE (N2.length + 2))) : FnOk P w K mg base CX0 (k + 1) fa fd ["script"] (spLaw K) := by
  refine Fn.ok S (fun vs H Q E h => ?_) (fun cdv A outer s H vs Q E hr h => ?_)
  · obtain ⟨a, ns, rfl, _⟩ := h; rfl
  · obtain ⟨a, ns, rfl, hs, hl, q⟩ := h
    obtain ⟨t, pt, so⟩ := body cdv A outer s H E hr
    refine ⟨_, pt, ?_⟩
    refine ⟨_, rfl, ?_⟩
    refine ⟨a, ns, rfl, hs, hl, fun p F' H' S' bx => ?_⟩
    refine so (some p) F' H' F' H' _ (lawE (N2.length + 2)) ⟨.refl S'.sub, (fun a e => by cases e; exact bx), [], ?_, List.nodup_nil, (fun a m => by cases m)⟩ _ pure _ ⟨fun _ _ _ _ _ _ z => z.elim, fun v d F' H' S' r' z => ?_, fun _ _ _ _ _ _ z => z.elim, fun _ _ _ _ _ _ z => z.elim, fun _ _ _ _ _ _ _ _ _ z => z.elim⟩
    · exact .no (.yes (.st (.bx rfl)) (lawR _ none))
    · subst z
      rw [r'.inv_bl]
      exact q H'
end
/-! ### the script's digits -/
def sp_law_digits : PSp := fun ds R => ∃ c : Int, ds = [.int c, .int 6] ∧ ∀ xs : List Int, xs.length ≤ 6 → R (.lst (xs.map D.int))
theorem l_law_digits : ∀ ds R, sp_law_digits ds R → ds.length = 2 := by rintro ds R ⟨m, rfl, _⟩; rfl
def digits2 : SW :=
    (sSeq (sIf (wTest (wOp fGe (wV 2) (wOp fPow (wC (.int 10)) (wC (.int 18))))) (sSeq (sFor (wRg1 (wCons (wV 1) wNil)) (.nm 4) (sSeq (sApp 3 (wOp fMod (wCB fInt (wCons (wV 2) wNil)) (wC (.int 1000003))))
    (sSeq (sAsg 2 (wOp fDiv (wV 2) (wC (.int 1000003))))
    (sIf (wTest (wOp fEqA (wV 2) (wC (.int 0)))) sBrk sNext))))
    (sFrz 3 (sRet (wV 3)))) sNext)
    (sSeq (sFor (wRg1 (wCons (wV 1) wNil)) (.nm 4) (sSeq (sAsg 5 (wOp fMod (wCB fInt (wCons (wOp fMul (wOp fAdd (wOp fAdd (wV 2) (wOp fMul (wC (.int 11)) (wV 4))) (wC (.int 3))) (wC (.int 48271))) wNil)) (wC (.int 2147483647))))
    (sSeq (sAsg 5 (wOp fMod (wCB fInt (wCons (wOp fAdd (wOp fAdd (wOp fMul (wV 5) (wC (.int 69621))) (wOp fMul (wC (.int 37)) (wV 4))) (wC (.int 5))) wNil)) (wC (.int 2147483629))))
    (sApp 3 (wOp fMod (wCB fInt (wCons (wOp fDiv (wV 5) (wC (.int 5))) wNil)) (wC (.int 1000003)))))))
    (sFrz 3 (sRet (wV 3)))))
def w_law_digits : SW := (sSeq (sAsg 2 (wV 0))
    (sSeq (sIf (wTest (wOp fLt (wV 2) (wC (.int 0)))) (sAsg 2 (wOp fSub (wOp fSub (wC (.int 0)) (wC (.int 1))) (wV 2))) sNext)
    (sSeq (sNew 3 (wLst wNil))
    digits2)))
def w_law_box : SW := (sSeq (sAsg 1 (wFz (wLst wNil)))
    (sSeq (sFor (wItS (wV 0)) (.nm 2) (sAsg 1 (wOp fAdd (wV 1) (wCall sp_law_digits (wCons (wV 2) (wCons (wC (.int 6)) wNil))))))
    (sSeq (sIf (wTest (wOp fEqA (wCB fLen (wCons (wV 1) wNil)) (wC (.int 0)))) (sAsg 1 (wFz (wLst (wCons (wC (.int 5)) (wCons (wC (.int 77)) (wCons (wC (.int 1031)) (wCons (wC (.int 40009)) (wCons (wC (.int 3)) (wCons (wC (.int 900001)) (wCons (wC (.int 12)) wNil)))))))))) sNext)
    (sRetV (wDisp (((wC (.str "row")), (wV 1)) :: (((wC (.str "at")), (wC (.int 0))) :: [])))))))

theorem digits2_ok {c n : Int} {R : D → Prop} (q : ∀ xs : List Int, xs.length ≤ 6 → R (.lst (xs.map D.int))) : digits2 { nx := fun _ => R .non, rt := R } [some (.st (.int c)), some (.st (.int 6)), some (.st (.int n)), some (.vl []), none, none] := by
  have e6 : List.range (Int.toNat 6) = List.range 6 := rfl
  unfold digits2
  walk_at "pw"
  refine ⟨⟨by omega, by omega, by decide⟩, ?_⟩
  rw [e6]
  split
  · refine ⟨by omega, by omega, ?_⟩
    refine forW_rng (fun k env => ∃ (n : Int) (xs : List Int) (j4 : Option T), env = [some (.st (.int c)), some (.st (.int 6)), some (.st (.int n)), some (.vl (xs.map fun x => .st (.int x))), j4, none] ∧ xs.length = k) ⟨n, [], _, rfl, rfl⟩ ?_ ?_
    · rintro k env N hk ⟨n, xs, j4, rfl, hl⟩ hN
      walk_at "pw"
      refine ⟨by omega, by omega, ⟨by omega, by decide⟩, ?_⟩
      split
      · have e : (xs.map fun x => T.st (.int x)) ++ [T.st (.int (n % 1000003))] = (xs ++ [n % 1000003]).map fun x => T.st (.int x) := by rw [List.map_append]; rfl
        unfold sBrk
        walk_at "pw"
        rw [e, erase_vl (f := D.int)]
        exact q _ (by simp; omega)
      · exact hN _ ⟨_, xs ++ [n % 1000003], _, by rw [List.map_append]; rfl, by simp [hl]⟩
    · rintro env ⟨n, xs, j4, rfl, hl⟩
      walk_at "pw"
      rw [erase_vl (f := D.int)]
      exact q _ (by omega)
  · refine ⟨by omega, by omega, ?_⟩
    refine forW_rng (fun k env => ∃ (xs : List Int) (j4 j5 : Option T), env = [some (.st (.int c)), some (.st (.int 6)), some (.st (.int n)), some (.vl (xs.map fun x => .st (.int x))), j4, j5] ∧ xs.length = k) ⟨[], _, _, rfl, rfl⟩ ?_ ?_
    · rintro k env N hk ⟨xs, j4, j5, rfl, hl⟩ hN
      walk_at "pw"
      refine ⟨.inl ⟨by decide, by decide⟩, .inr ⟨by decide, by decide⟩, by omega, .inr ⟨by decide, by decide⟩, .inl ⟨by decide, by decide⟩, by omega, by omega, ⟨by omega, by decide⟩, by omega, ?_⟩
      exact hN _ ⟨xs ++ [_], _, _, by rw [List.map_append]; rfl, by simp [hl]⟩
    · rintro env ⟨xs, j4, j5, rfl, hl⟩
      walk_at "pw"
      rw [erase_vl (f := D.int)]
      exact q _ (by omega)
theorem p_law_digits : ∀ ds R, sp_law_digits ds R → w_law_digits { nx := fun _ => R .non, rt := R } (startE 6 ds) := by
  rintro ds R ⟨c, rfl, q⟩
  unfold w_law_digits
  walk_at "pw"
  split
  · exact ⟨by omega, digits2_ok q⟩
  · exact ⟨by omega, digits2_ok q⟩
theorem p_law_box : ∀ ns : List Int, ns.length ≤ 63 → w_law_box { nx := fun _ => False, rt := fun _ => False, rv := IsBox } (startE 3 [.scr ns]) := by
  intro ns hn
  unfold w_law_box
  walk_at "pw"
  have e0 : (T.vl []).erase = .lst [] := by simp [T.erase, erases]
  rw [e0]
  refine ⟨by omega, forW_inv D.int (fun pre env => ∃ (xs : List Int) (j2 : Option T), env = [some (.st (.scr ns)), some (.st (.lst (xs.map D.int))), j2] ∧ xs.length ≤ 6 * pre.length) ⟨[], _, rfl, by simp⟩ ?_ ?_⟩
  · rintro pre c post env N e ⟨xs, j2, rfl, hl⟩ hN
    walk_at "pw"
    refine ⟨c, rfl, fun ys hy => ?_⟩
    walk_at "pw"
    have hp : pre.length ≤ 63 := by have := congrArg List.length e; simp at this; omega
    refine ⟨Nat.le_trans (by omega : _ ≤ 1000) (by decide), ?_⟩
    rw [← List.map_append]
    exact hN _ ⟨xs ++ ys, _, rfl, by simp; omega⟩
  · rintro env ⟨xs, j2, rfl, hl⟩
    have fin : ∀ ys : List Int, ys ≠ [] → ys.length ≤ 1000 → ∃ es : List (Key × D), 2 = es.length ∧ (∀ (i : Nat) (k x : D), [(D.str "row", D.lst (ys.map D.int)), (D.str "at", D.int 0)][i]? = some (k, x) → ∃ key, es[i]? = some (key, x) ∧ kK k = some key) ∧ es.length ≤ 15 ∧ IsBox (.vk (mergeT es)) := by
      intro ys h1 h2
      refine ⟨[(.inr "row", .lst (ys.map D.int)), (.inr "at", .int 0)], rfl, ?_, by simp, ys, h1, h2, ?_⟩
      · intro i k x hi
        match i with
        | 0 => simp at hi; obtain ⟨rfl, rfl⟩ := hi; exact ⟨_, rfl, rfl⟩
        | 1 => simp at hi; obtain ⟨rfl, rfl⟩ := hi; exact ⟨_, rfl, rfl⟩
        | i + 2 => simp at hi
      · unfold mergeT
        simp only [List.foldl_cons, List.foldl_nil]
        have e1 : putL ([] : List (Key × T)) (.inr "row") (.st (.lst (ys.map D.int))) = [(.inr "row", .st (.lst (ys.map D.int)))] := by unfold putL; simp
        rw [e1]
        unfold putL
        rw [if_neg (by simpa using key_ne)]
        rfl
    walk_at "pw"
    split
    · have e : (T.vl [T.st (D.int 5), T.st (D.int 77), T.st (D.int 1031), T.st (D.int 40009), T.st (D.int 3), T.st (D.int 900001), T.st (D.int 12)]).erase = .lst ([5, 77, 1031, 40009, 3, 900001, 12].map D.int) := by simp [T.erase, erases]
      rw [e]
      exact ⟨by omega, fin _ (by simp) (by simp)⟩
    · rename_i hx
      exact fin xs (fun e => hx (by rw [e]; rfl)) (by omega)
/-- the def that makes the box -/
def CalleeB (P : Program) (w : World) (K : PySem.W.Frag) (mg : Str → Option Value) (base : Heap) (k : Nat) (x : Str) : Prop :=
  ∃ (f : Addr) (fd : FuncData) (ps : List Str), FnOk P w K mg base CX0 k f fd ps (spBox K) ∧ mg x = some (.ref f) ∧ PySem.W.keepIn K (.ref f) = true ∧ L2.Binds K fd ps []
theorem ps_box {X : Cx} {k j : Nat} {x y b1 : Str} {p p2 pos py spos : Pos} (nd : X.N.Nodup) (c : CalleeB X.prog X.w X.K X.mg X.base k x) (hr : Room j X.A) (hk : k ≤ j) (hg : Gl X x := by rfl) (hdb : (x == ("__debug__" : Str)) = false := by decide)
    (h0 : X.N[0]? = some y := by rfl) (hv : Vis X.env.scope y := by first | exact Or.inl rfl | exact Or.inr (Or.inl rfl) | exact Or.inr (Or.inr rfl)) (hd : (y == ("__debug__" : Str)) = false := by decide) (hcd : (y == ("__classdict__" : Str)) = false := by decide)
    (he : starEach [Expr.Name y p2] X.env = (false, eval (.Name y p2) X.env) :: starEach [] X.env := by rfl) (hpl : (backTo pos (starEach [] X.env)).any (·.1) = false := by rfl)
    (hi : X.N[1]? = some b1 := by rfl) (hx : L2.Loc X.env.scope b1 := by first | exact Or.inl rfl | exact Or.inr rfl) (hs : swapsWith (.Call (.Name x p) [.Name y p2] [] pos) (some (.Name b1 py)) spos.line X.env = pure false := by rfl) (hf : X.fn b1 = true ∨ X.env.scope.names.lookup b1 = some .local := by first | exact .inl rfl | exact .inr rfl | assumption) :
    PS X (.Assign [.Name b1 py] (.Call (.Name x p) [.Name y p2] [] pos) spos) (tAsg (tCall (spBox X.K) [] E0 (tCons (tVar 0) tNil)) (gName 1)) := by
  obtain ⟨f, fd, ps, F, hm, kp, bd⟩ := c
  exact ps_set nd hi hx (pe_call F (hr.mono hk) hg hm kp bd .nil pass0 (pa_cons (pe_var h0 hv hd hcd) pa_nil he) hdb he hpl) hs hf
end Pw
namespace Pw
open PySem PySem.Spec PyProof.Rows L2

/-! ### tables by names -/
section
variable {α β : Type} {xs : List Str} {y : Str} {u : α}
def upd1 (g : Str → α) (y : Str) (u : α) : Str → α := fun x => if x = y then u else g x
@[simp] theorem upd1_same {g : Str → α} : upd1 g y u y = u := by simp [upd1]
theorem upd1_ne {g : Str → α} {x : Str} (h : x ≠ y) : upd1 g y u x = g x := by simp [upd1, h]
theorem look_tab {g : Str → α} (h : y ∈ xs) : look (xs.map fun x => ((.inr x : Key), g x)) (.inr y) = some (g y) := by
  induction xs with
  | nil => cases h
  | cons z zs ih =>
    unfold look at ih ⊢
    rw [List.map_cons, List.find?_cons]
    by_cases e : z = y
    · subst e; simp
    · have : ((.inr z : Key)) ≠ .inr y := fun q => e (Sum.inr.inj q)
      simp only [this, decide_false]
      exact ih (by rcases List.mem_cons.mp h with q | q; exact absurd q.symm e; exact q)
theorem look_tab_none {g : Str → α} (h : y ∉ xs) : look (xs.map fun x => ((.inr x : Key), g x)) (.inr y) = none := by
  unfold look
  rw [Option.map_eq_none_iff, List.find?_eq_none]
  intro p hp
  obtain ⟨x, hx, rfl⟩ := List.mem_map.mp hp
  simp
  intro e; exact h (e ▸ hx)
theorem put_tab {g : Str → T} {u : T} (h : y ∈ xs) : putL (xs.map fun x => ((.inr x : Key), g x)) (.inr y) u = xs.map fun x => ((.inr x : Key), upd1 g y u x) := by
  unfold putL
  rw [if_pos (by rw [List.any_map, List.any_eq_true]; exact ⟨y, h, by simp⟩), List.map_map]
  refine List.map_congr_left fun x hx => ?_
  show (if (Sum.inr x : Key) = .inr y then _ else _) = _
  unfold upd1
  by_cases e : x = y
  · subst e; simp
  · have : ((.inr x : Key)) ≠ .inr y := fun q => e (Sum.inr.inj q)
    rw [if_neg this, if_neg e]
theorem pos_tab {g : Str → T} (h : y ∈ xs) : posK (xs.map fun x => ((.inr x : Key), g x)) (.inr y) = some (ixOf xs y) := by
  unfold posK ixOf
  rw [List.findIdx?_eq_some_iff_findIdx_eq]
  rw [List.findIdx_map]
  have e : ((fun p : Key × T => decide (p.1 = Sum.inr y)) ∘ fun x => ((.inr x : Key), g x)) = fun x : Str => decide (x = y) := by
    funext x
    show decide ((Sum.inr x : Key) = .inr y) = _
    by_cases e : x = y
    · subst e; simp
    · have : ((.inr x : Key)) ≠ .inr y := fun q => e (Sum.inr.inj q)
      simp [e]
  rw [e]
  refine ⟨?_, rfl⟩
  rw [List.length_map]
  exact ixOf_lt h
theorem set_tab {g : Str → α} (nd : xs.Nodup) (h : y ∈ xs) : (xs.map g).set (ixOf xs y) u = xs.map (upd1 g y u) := by
  apply List.ext_getElem?
  intro j
  rw [List.getElem?_set]
  have hl := ixOf_lt h
  by_cases e : ixOf xs y = j
  · subst e
    rw [if_pos rfl, List.length_map, if_pos hl, List.getElem?_map, ixOf_get h]
    simp
  · rw [if_neg e, List.getElem?_map, List.getElem?_map]
    cases hj : xs[j]? with
    | none => rfl
    | some z =>
      obtain ⟨hj1, hj2⟩ := List.getElem?_eq_some_iff.mp hj
      have : z ≠ y := fun q => e (by
        have := ixOf_getElem nd hj1
        rw [hj2, q] at this
        exact this)
      simp [upd1_ne this]
theorem setV_tab {g : Str → T} {u : T} (nd : xs.Nodup) (h : y ∈ xs) : setV (xs.map fun x => ((.inr x : Key), g x)) (ixOf xs y) u = xs.map fun x => ((.inr x : Key), upd1 g y u x) := by
  have hl := ixOf_lt h
  unfold setV
  rw [List.getElem?_map, ixOf_get h]
  show (xs.map fun x => ((.inr x : Key), g x)).set (ixOf xs y) (.inr y, u) = _
  have := set_tab (u := ((.inr y : Key), u)) (g := fun x => ((.inr x : Key), g x)) nd h
  rw [this]
  refine List.map_congr_left fun x _ => ?_
  unfold upd1
  by_cases e : x = y
  · subst e; simp
  · simp [e]
theorem atI_tab {g : Str → α} (h : y ∈ xs) : L2.atI (xs.map g) (ixOf xs y : Int) = some (g y) := by
  rw [atI_get, List.getElem?_map, ixOf_get h]; rfl
theorem ixN_nat {n k : Nat} (h : k < n) : ixN n (k : Int) = some k := by
  unfold ixN
  rw [if_pos (by omega), if_pos (by omega)]
  simp
theorem atI_rng {f : Nat → α} {m k : Nat} (h : k < m) : L2.atI ((List.range m).map f) (k : Int) = some (f k) := by
  rw [atI_get, List.getElem?_map, List.getElem?_range h]; rfl
def updN (g : Nat → α) (k : Nat) (u : α) : Nat → α := fun x => if x = k then u else g x
@[simp] theorem updN_same {g : Nat → α} {k : Nat} : updN g k u k = u := by simp [updN]
theorem updN_ne {g : Nat → α} {x k : Nat} (h : x ≠ k) : updN g k u x = g x := by simp [updN, h]
theorem set_rng {f : Nat → α} {m k : Nat} (h : k < m) : ((List.range m).map f).set k u = (List.range m).map (updN f k u) := by
  apply List.ext_getElem?
  intro j
  rw [List.getElem?_set]
  by_cases e : k = j
  · subst e
    rw [if_pos rfl, List.length_map, List.length_range, if_pos h, List.getElem?_map, List.getElem?_range h]
    simp
  · rw [if_neg e, List.getElem?_map, List.getElem?_map]
    by_cases hj : j < m
    · rw [List.getElem?_range hj]; simp [updN_ne (Ne.symm e)]
    · rw [List.getElem?_eq_none (by rw [List.length_range]; omega)]; rfl
theorem ixOf_append_left {ys : List Str} (h : y ∈ xs) : ixOf (xs ++ ys) y = ixOf xs y := by
  unfold ixOf
  rw [List.findIdx_append, if_pos (by have := ixOf_lt h; unfold ixOf at this; exact this)]
theorem ixOf_snoc (h : y ∉ xs) : ixOf (xs ++ [y]) y = xs.length := by
  unfold ixOf
  rw [List.findIdx_append]
  have e : xs.findIdx (fun z => decide (z = y)) = xs.length := by
    rw [List.findIdx_eq_length]
    intro z hz
    simp
    intro e; exact h (e ▸ hz)
  rw [if_neg (by omega)]
  simp
end
/-! ### the order of a round: one after the other, as soon as nothing is waited for -/
structure KI (names : List Str) (ts : List Ti) (row : List Str) (at_ : Nat) (pre : List Ti) (g : Str → Int) : Prop where
  rnd : row.Nodup
  rsub : ∀ x ∈ row, x ∈ names
  cnt : ∀ x ∈ names, g x + pre.countP (fun t => decide (t.goal = x)) = ts.countP fun t => !decide (t.start ∈ row.take at_) && decide (t.goal = x)
  zero : ∀ x ∈ names, (x ∈ row ↔ g x = 0)
  top : ∀ t ∈ ts, t.goal ∈ row → t.start ∈ row ∧ ixOf row t.start < ixOf row t.goal
section
variable {names : List Str} {ts : List Ti} {row : List Str} {at_ : Nat} {pre post : List Ti} {g : Str → Int}
theorem countP_split (p q : Ti → Bool) (l : List Ti) : l.countP q = l.countP (fun t => p t && q t) + l.countP (fun t => !p t && q t) := by
  induction l with
  | nil => rfl
  | cons a l ih =>
    simp only [List.countP_cons, ih]
    cases p a <;> cases q a <;> simp <;> omega
theorem countP_filter_and (p q : Ti → Bool) (l : List Ti) : (l.filter p).countP q = l.countP fun t => p t && q t := by
  rw [List.countP_filter]
  congr 1
  funext t
  exact Bool.and_comm _ _
theorem KI.init (hg : ∀ x ∈ names, g x = ts.countP fun t => decide (t.goal = x)) (nd : names.Nodup) (hts : ∀ t ∈ ts, t.goal ∈ names) : KI names ts (names.filter fun x => decide (g x = 0)) 0 [] g where
  rnd := nd.sublist List.filter_sublist
  rsub := fun x hx => (List.mem_filter.mp hx).1
  cnt := fun x hx => by simp [hg x hx]
  zero := fun x hx => by simp [hx]
  top := fun t ht h => by
    have h := (List.mem_filter.mp h)
    have h2 := hg _ h.1
    have h3 : g t.goal = 0 := by simpa using h.2
    rw [h3] at h2
    have : ts.countP (fun t' => decide (t'.goal = t.goal)) = 0 := by omega
    rw [List.countP_eq_zero] at this
    exact absurd (by simp) (this t ht)
theorem KI.step (K : KI names ts row at_ pre g) {x0 : Str} {t : Ti} (hx : row[at_]? = some x0) (e : pre ++ t :: post = ts.filter fun t => decide (t.start = x0)) (hts : ∀ t ∈ ts, t.goal ∈ names) :
    1 ≤ g t.goal ∧ t.start = x0 ∧ t.goal ∈ names ∧ KI names ts (if g t.goal - 1 = 0 then row ++ [t.goal] else row) at_ (pre ++ [t]) (upd1 g t.goal (g t.goal - 1)) := by
  have hat : at_ < row.length := (List.getElem?_eq_some_iff.mp hx).1
  have ht : t ∈ ts.filter fun t => decide (t.start = x0) := by rw [← e]; simp
  have ht1 : t ∈ ts := (List.mem_filter.mp ht).1
  have ht2 : t.start = x0 := by simpa using (List.mem_filter.mp ht).2
  have hgn := hts t ht1
  have hx0 : x0 ∉ row.take at_ := fun m => by
    rw [List.mem_take_iff_getElem] at m
    obtain ⟨j, hj, e⟩ := m
    obtain ⟨_, e2⟩ := List.getElem?_eq_some_iff.mp hx
    have := nodup_inj K.rnd (i := j) (j := at_) (by omega) hat (by rw [e, e2])
    omega
  have pos : 1 ≤ g t.goal := by
    have h1 := K.cnt _ hgn
    have h2 : (ts.filter fun t => decide (t.start = x0)).countP (fun t' => decide (t'.goal = t.goal)) ≤ ts.countP fun t' => !decide (t'.start ∈ row.take at_) && decide (t'.goal = t.goal) := by
      rw [countP_filter_and]
      refine List.countP_mono_left fun t' _ h => ?_
      simp only [Bool.and_eq_true, decide_eq_true_eq, Bool.not_eq_true', decide_eq_false_iff_not] at h ⊢
      exact ⟨by rw [h.1]; exact hx0, h.2⟩
    rw [← e, List.countP_append, List.countP_cons] at h2
    simp only [decide_true, if_true] at h2
    omega
  have hnr : t.goal ∉ row := fun m => by
    have := (K.zero _ hgn).mp m
    omega
  refine ⟨pos, ht2, hgn, ?_⟩
  have tk : ∀ ys : List Str, (row ++ ys).take at_ = row.take at_ := fun ys => List.take_append_of_le_length (by omega)
  have cnt' : ∀ x ∈ names, upd1 g t.goal (g t.goal - 1) x + (pre ++ [t]).countP (fun t => decide (t.goal = x)) = ts.countP fun t => !decide (t.start ∈ row.take at_) && decide (t.goal = x) := by
    intro x hx
    rw [← K.cnt x hx, List.countP_append, List.countP_singleton]
    unfold upd1
    by_cases q : x = t.goal
    · subst q; simp; omega
    · simp [q, Ne.symm q]
  split
  · rename_i hz
    refine ⟨?_, ?_, ?_, ?_, ?_⟩
    · rw [List.nodup_append]
      exact ⟨K.rnd, by simp, fun a ha b hb e => by simp at hb; subst hb; subst e; exact hnr ha⟩
    · intro x hx
      rcases List.mem_append.mp hx with hx | hx
      · exact K.rsub x hx
      · rw [List.mem_singleton.mp hx]; exact hgn
    · rw [tk]; exact cnt'
    · intro x hx
      by_cases q : x = t.goal
      · subst q; simp; omega
      · rw [upd1_ne q, ← K.zero x hx]; simp [q]
    · intro t' ht' hm
      by_cases q : t'.goal = t.goal
      · have hs : t'.start ∈ row := by
          have h1 := cnt' _ hgn
          rw [upd1_same, hz] at h1
          by_cases hs : t'.start ∈ row.take at_
          · exact List.mem_of_mem_take hs
          · -- it is among those done in this turn
            have h2 : ts.countP (fun t' => !decide (t'.start ∈ row.take at_) && decide (t'.goal = t.goal)) ≤ ts.countP fun t' => decide (t'.start = x0) && decide (t'.goal = t.goal) := by
              have h3 : (pre ++ [t]).countP (fun t' => decide (t'.goal = t.goal)) ≤ (ts.filter fun t => decide (t.start = x0)).countP (fun t' => decide (t'.goal = t.goal)) := by
                rw [← e]
                have : pre ++ t :: post = (pre ++ [t]) ++ post := by simp
                rw [this, List.countP_append (l₁ := pre ++ [t])]
                omega
              rw [countP_filter_and] at h3
              omega
            have h4 := countP_split (fun t' => decide (t'.start = x0)) (fun t' => !decide (t'.start ∈ row.take at_) && decide (t'.goal = t.goal)) ts
            have h5 : ts.countP (fun t' => decide (t'.start = x0) && (!decide (t'.start ∈ row.take at_) && decide (t'.goal = t.goal))) = ts.countP fun t' => decide (t'.start = x0) && decide (t'.goal = t.goal) := by
              refine List.countP_congr fun t'' _ => ?_
              by_cases h6 : t''.start = x0
              · simp [h6, hx0]
              · simp [h6]
            have h7 : ts.countP (fun t' => !decide (t'.start = x0) && (!decide (t'.start ∈ row.take at_) && decide (t'.goal = t.goal))) = 0 := by omega
            rw [List.countP_eq_zero] at h7
            have h8 := h7 t' ht'
            simp only [Bool.and_eq_true, Bool.not_eq_true', decide_eq_false_iff_not, decide_eq_true_eq, not_and] at h8
            by_cases h9 : t'.start = x0
            · rw [h9]; exact List.mem_of_getElem? hx
            · exact absurd q (h8 h9 hs)
        refine ⟨List.mem_append_left _ hs, ?_⟩
        rw [ixOf_append_left hs, q, ixOf_snoc hnr]
        exact ixOf_lt hs
      · have hm' : t'.goal ∈ row := by
          rcases List.mem_append.mp hm with h | h
          · exact h
          · exact absurd (List.mem_singleton.mp h) q
        obtain ⟨h1, h2⟩ := K.top t' ht' hm'
        exact ⟨List.mem_append_left _ h1, by rw [ixOf_append_left h1, ixOf_append_left hm']; exact h2⟩
  · rename_i hz
    refine ⟨K.rnd, K.rsub, cnt', fun x hx => ?_, K.top⟩
    by_cases q : x = t.goal
    · subst q
      rw [upd1_same]
      exact ⟨fun m => absurd m hnr, fun e => absurd e hz⟩
    · rw [upd1_ne q]; exact K.zero x hx
theorem KI.turn (K : KI names ts row at_ (ts.filter fun t => decide (t.start = x0)) g) (hx : row[at_]? = some x0) : KI names ts row (at_ + 1) [] g where
  rnd := K.rnd
  rsub := K.rsub
  cnt := fun x h => by
    have h1 := K.cnt x h
    rw [countP_filter_and] at h1
    have hat : at_ < row.length := (List.getElem?_eq_some_iff.mp hx).1
    obtain ⟨_, e2⟩ := List.getElem?_eq_some_iff.mp hx
    have tk : row.take (at_ + 1) = row.take at_ ++ [x0] := by
      rw [List.take_succ, hx]; rfl
    have hx0 : x0 ∉ row.take at_ := fun m => by
      rw [List.mem_take_iff_getElem] at m
      obtain ⟨j, hj, e⟩ := m
      have := nodup_inj K.rnd (i := j) (j := at_) (by omega) hat (by rw [e, e2])
      omega
    rw [tk]
    have h4 := countP_split (fun t' => decide (t'.start = x0)) (fun t' => !decide (t'.start ∈ row.take at_) && decide (t'.goal = x)) ts
    have h5 : ts.countP (fun t' => decide (t'.start = x0) && (!decide (t'.start ∈ row.take at_) && decide (t'.goal = x))) = ts.countP fun t' => decide (t'.start = x0) && decide (t'.goal = x) := by
      refine List.countP_congr fun t'' _ => ?_
      by_cases h6 : t''.start = x0
      · simp [h6, hx0]
      · simp [h6]
    have h6 : ts.countP (fun t' => !decide (t'.start = x0) && (!decide (t'.start ∈ row.take at_) && decide (t'.goal = x))) = ts.countP fun t' => !decide (t'.start ∈ row.take at_ ++ [x0]) && decide (t'.goal = x) := by
      refine List.countP_congr fun t'' _ => ?_
      simp
      constructor
      · rintro ⟨a, b, c⟩; exact ⟨⟨b, a⟩, c⟩
      · rintro ⟨⟨b, a⟩, c⟩; exact ⟨a, b, c⟩
    simp
    simp at h1 h4 h5 h6
    omega
  zero := K.zero
  top := K.top
theorem perm_of_nodup {xs ys : List Str} (h1 : xs.Nodup) (h2 : ys.Nodup) (h : ∀ x, x ∈ xs ↔ x ∈ ys) : xs.Perm ys :=
  (List.perm_ext_iff_of_nodup h1 h2).mpr h
theorem KI.done (K : KI names ts row at_ [] g) (ha : row.length ≤ at_) (nd : names.Nodup) {ord : List Str} (ho : ord.Perm names) (top : ∀ t ∈ ts, ixOf ord t.start < ixOf ord t.goal) (hts : ∀ t ∈ ts, t.start ∈ names) : row.Perm names := by
  refine perm_of_nodup K.rnd nd fun x => ⟨K.rsub x, fun hx => ?_⟩
  have : ∀ (n : Nat) (x : Str), ixOf ord x < n → x ∈ names → x ∈ row := by
    intro n
    induction n with
    | zero => intro x h; omega
    | succ n ih =>
      intro x h hx
      rw [K.zero x hx]
      have h1 := K.cnt x hx
      rw [List.take_of_length_le ha] at h1
      have h2 : ts.countP (fun t => !decide (t.start ∈ row) && decide (t.goal = x)) = 0 := by
        rw [List.countP_eq_zero]
        intro t ht
        simp only [Bool.and_eq_true, decide_eq_true_eq, not_and, Bool.not_eq_true', decide_eq_false_iff_not]
        intro h3 h4
        refine h3 (ih _ ?_ (hts t ht))
        have := top t ht
        rw [h4] at this
        omega
      rw [h2] at h1
      simp at h1
      exact h1
  exact this _ x (Nat.lt_succ_self _) hx
end
end Pw
namespace Pw
open PySem PySem.Spec PyProof.Rows L2
theorem isD_vk {es : List (Key × T)} : (T.vk es).isD = true := rfl
theorem isD_dk {es : List (Key × D)} : (T.st (.dk es)).isD = true := rfl
theorem gV {es : List (Key × T)} {x : Str} : (T.vk es).get? (.str x) = some (look es (.inr x)) := rfl
theorem gD {es : List (Key × D)} {x : Str} : (T.st (.dk es)).get? (.str x) = some ((look es (.inr x)).map .st) := rfl
theorem pV {es : List (Key × T)} {x : Str} {d : D} : (T.vk es).put? (.str x) d = some (.vk (putL es (.inr x) (.st d))) := rfl
theorem posV {es : List (Key × T)} {x : Str} : (T.vk es).pos? (.str x) = posK es (.inr x) := rfl
theorem sz_vk {es : List (Key × T)} : (T.vk es).sz = es.length := rfl
theorem sz_vl {es : List T} : (T.vl es).sz = es.length := rfl
theorem kK_str {x : Str} : kK (.str x) = some (.inr x) := rfl
theorem ch_vk {es : List (Key × T)} : (T.vk es).ch = es.map (·.2) := rfl
theorem ch_vl {es : List T} : (T.vl es).ch = es := rfl
theorem setCh_vk {es : List (Key × T)} {j : Nat} {u : T} : (T.vk es).setCh j u = .vk (setV es j u) := rfl
theorem setCh_vl {es : List T} {j : Nat} {u : T} : (T.vl es).setCh j u = .vl (es.set j u) := rfl
theorem upd1_comp {α β : Type} {f : α → β} {g : Str → α} {y : Str} {u : α} : upd1 (fun x => f (g x)) y (f u) = fun x => f (upd1 g y u x) := by
  funext x
  unfold upd1
  split <;> rfl
local macro_rules | `(tactic| walk_at "pw") => `(tactic| simp only [wV, wC, wOp, wUn, wTest, wAnd, wOr, wNot, wTru, wIf, wNil, wCons, wTup, wLst, wFz, wNw, wDk, wDt, wCB, wM, wM1, wCall, wGet2, wSl, wSo, wNo, wRev, wItS, wRg1, wRg2, wRg3, wEnum, wLc, wDc, wDisp, wPairs, wYes, sNext, sSeq, sAsg, sNew, sAsgT, sFrz, sDrop, sRet, sRetV, sRetN, sIf, sFor, sAugI, sApp, sSet, sSet2, sApp2, sDAug, sAppPop, sSdApp, sExt, sNever, setT_nm, setT_tp, setTs_nil, setTs_cons, T.it?, T.il?, plainL, startE, wipeE, List.map_cons, List.map_nil, List.length_cons, List.length_nil, List.replicate_succ, List.replicate_zero, List.cons_append, List.nil_append, List.append_nil, List.getElem?_cons_zero, List.getElem?_cons_succ, List.set_cons_zero, List.set_cons_succ, Option.some.injEq, T.st.injEq, T.vl.injEq, T.vk.injEq, D.tup.injEq, D.lst.injEq, D.int.injEq, D.str.injEq, D.bl.injEq, List.cons.injEq, exists_eq', exists_eq, Int.toNat_natCast, rng_eq, List.length_map, List.length_range, exists_eq_left', exists_eq_left, exists_and_left, and_true, true_and, Option.bind_some, Option.map_some, fGet_tup, fGet_lst, fGet_vl, fGet_str, fGet_dk, fGet_vk, fII_st, fAdd_int, fAdd_str, fAdd_lst, fAdd_lv, fEqA_int, fEqA_str, fNotN_non, fNotN_int, fIsN_non, fIsN_int, fLen_lst, fLen_tup, fLen_vl, fLen_str, dl_strN, dl_lst, reduceCtorEq, false_and, and_false, exists_false, false_or, or_false, fInt_int, fInt_bl, fTuple_lst, fTuple_vl, fTuple_tup, fList_tup, fList_lst, fMax_2, fMax_3, fMin_2, atI_0, atI_1, atI_2, atI_3, atI_4, erase_st, decide_eq_true_eq, Bool.false_eq_true, if_true, if_false, take_iff, isD_vk, isD_dk, gV, gD, pV, posV, sz_vk, sz_vl, kK_str, ch_vk, ch_vl, setCh_vk, setCh_vl, atI_tab, Option.getD_some, Option.getD_none, ite_true, ite_false])
def w_law_name_list : SW := (sRet (wFz (wLc (wItS (wOp fGet (wV 0) (wC (.int 0)))) (.nm 1) wYes (wNw (wOp fGet (wV 1) (wC (.int 0)))) [1])))
def w_law_times : SW := (sSeq (sNew 1 wDk)
    (sSeq (sFor (wItS (wOp fGet (wV 0) (wC (.int 0)))) (.tp ((.nm 2) :: ((.nm 3) :: []))) (sSet 1 (wV 2) (wV 3)))
    (sFrz 1 (sRet (wV 1)))))
def w_law_ties : SW := (sSeq (sNew 1 (wLst wNil))
    (sSeq (sNew 2 (wLst wNil))
    (sSeq (sFor (wItS (wOp fGet (wV 0) (wC (.int 1)))) (.tp ((.nm 3) :: ((.nm 4) :: ((.nm 5) :: ((.nm 6) :: ((.nm 7) :: [])))))) (sSeq (sApp 1 (wTup (wCons (wTup (wCons (wC (.str "part")) (wCons (wV 3) wNil))) (wCons (wV 4) (wCons (wV 5) (wCons (wV 6) wNil))))))
    (sIf (wTest (wOp fNotN (wV 7) (wC .non))) (sApp 2 (wTup (wCons (wTup (wCons (wC (.str "room")) (wCons (wV 3) wNil))) (wCons (wV 5) (wCons (wV 4) (wCons (wOp fSub (wV 7) (wV 6)) wNil)))))) sNext)))
    (sFrz 1 (sFrz 2 (sRet (wOp fAdd (wV 1) (wV 2))))))))
def w_leaving_of : SW := (sSeq (sNew 1 wDk)
    (sSeq (sFor (wEnum (wCons (wV 0) wNil)) (.tp ((.nm 2) :: ((.nm 3) :: []))) (sSdApp 1 (wOp fGet (wV 3) (wC (.int 1))) (wV 2)))
    (sFrz 1 (sRet (wV 1)))))

def sp_law_name_list : PSp := fun ds R => ∃ w : Wk, ds = [enc w] ∧ w.Ok ∧ R (.lst (w.names.map D.str))
def sp_law_times : PSp := fun ds R => ∃ w : Wk, ds = [enc w] ∧ w.Ok ∧ R (encTimes w)
def sp_law_ties : PSp := fun ds R => ∃ w : Wk, ds = [enc w] ∧ w.Ok ∧ R (.lst (w.ties.map encT))
theorem l_law_name_list : ∀ ds R, sp_law_name_list ds R → ds.length = 1 := by rintro ds R ⟨w, rfl, _⟩; rfl
theorem l_law_times : ∀ ds R, sp_law_times ds R → ds.length = 1 := by rintro ds R ⟨w, rfl, _⟩; rfl
theorem l_law_ties : ∀ ds R, sp_law_ties ds R → ds.length = 1 := by rintro ds R ⟨w, rfl, _⟩; rfl
theorem p_law_name_list : ∀ ds R, sp_law_name_list ds R → w_law_name_list { nx := fun _ => R .non, rt := R } (startE 2 ds) := p_names_of
theorem p_law_times : ∀ ds R, sp_law_times ds R → w_law_times { nx := fun _ => R .non, rt := R } (startE 4 ds) := by
  rintro ds R ⟨w, rfl, h, q⟩
  unfold w_law_times enc
  walk_at "pw"
  refine forW_inv encM (fun pre env => ∃ j2 j3, env = [some (.st (enc w)), some (.vk (pre.map fun m : Str × Int => ((.inr m.1 : Key), T.st (.int m.2)))), j2, j3]) ⟨_, _, rfl⟩ ?_ ?_
  · rintro pre m post env N e ⟨j2, j3, rfl⟩ hN
    rw [show encM m = D.tup [.str m.1, .int m.2] from rfl]
    walk_at "pw"
    have nd := h.nd
    unfold Wk.names at nd
    rw [e, List.map_append, List.map_cons] at nd
    have hn : m.1 ∉ pre.map (·.1) := fun hm => by
      have := (List.nodup_append.mp nd).2.2 _ hm m.1 (by simp)
      exact this rfl
    have hp : putL (pre.map fun m : Str × Int => ((.inr m.1 : Key), T.st (.int m.2))) (.inr m.1) (.st (.int m.2)) = (pre ++ [m]).map fun m : Str × Int => ((.inr m.1 : Key), T.st (.int m.2)) := by
      unfold putL
      rw [if_neg, List.map_append]; rfl
      simp only [List.any_map, List.any_eq_true, not_exists, not_and]
      intro x hx
      simp
      intro e2
      exact hn (List.mem_map.mpr ⟨x, hx, e2⟩)
    rw [hp]
    refine ⟨?_, hN _ ⟨_, _, rfl⟩⟩
    have := h.sm
    rw [e] at this
    simp at this
    omega
  · rintro env ⟨j2, j3, rfl⟩
    walk_at "pw"
    rw [erase_vk (k := fun m : Str × Int => (Sum.inr m.1 : Key)) (f := fun m : Str × Int => D.int m.2)]
    exact q
theorem p_law_ties : ∀ ds R, sp_law_ties ds R → w_law_ties { nx := fun _ => R .non, rt := R } (startE 8 ds) := by
  rintro ds R ⟨w, rfl, h, q⟩
  unfold w_law_ties enc
  walk_at "pw"
  refine ⟨by decide, by decide, forW_inv encB (fun pre env => ∃ j3 j4 j5 j6 j7, env = [some (.st (enc w)), some (.vl (pre.map fun b => .st (encT (Wk.partOf b)))), some (.vl ((pre.filterMap Wk.roomOf).map fun t => .st (encT t))), j3, j4, j5, j6, j7]) ⟨_, _, _, _, _, rfl⟩ ?_ ?_⟩
  · rintro pre b post env N e ⟨j3, j4, j5, j6, j7, rfl⟩ hN
    rw [show encB b = D.tup [.str b.name, .str b.start, .str b.goal, .int b.stock, encR b.room] from rfl]
    walk_at "pw"
    have hb : pre.length ≤ 100 := by
      have h2 := h.sb
      rw [e] at h2
      simp at h2
      omega
    have hl : (pre.filterMap Wk.roomOf).length ≤ 100 := Nat.le_trans (List.length_filterMap_le Wk.roomOf pre) hb
    have e1 : ((pre ++ [b]).map fun b => T.st (encT (Wk.partOf b))) = (pre.map fun b => T.st (encT (Wk.partOf b))) ++ [.st (.tup [.tup [.str (Str.ofString "part"), .str b.name], .str b.start, .str b.goal, .int b.stock])] := by
      rw [List.map_append]; rfl
    rw [e1] at hN
    cases hr : b.room with
    | none =>
      have e2 : (pre ++ [b]).filterMap Wk.roomOf = pre.filterMap Wk.roomOf := by simp [List.filterMap_append, Wk.roomOf, hr]
      rw [e2] at hN
      unfold encR
      walk_at "pw"
      exact ⟨by omega, by omega, by omega, hN _ ⟨_, _, _, _, _, rfl⟩⟩
    | some r =>
      have e2 : (pre ++ [b]).filterMap Wk.roomOf = pre.filterMap Wk.roomOf ++ [⟨"room", b.name, b.goal, b.start, r - b.stock⟩] := by simp [List.filterMap_append, Wk.roomOf, hr]
      rw [e2, List.map_append] at hN
      unfold encR
      walk_at "pw"
      exact ⟨by omega, by omega, by omega, by omega, by omega, by omega, hN _ ⟨_, _, _, _, _, rfl⟩⟩
  · rintro env ⟨j3, j4, j5, j6, j7, rfl⟩
    walk_at "pw"
    rw [erase_vl (f := fun b => encT (Wk.partOf b)), erase_vl (f := encT)]
    walk_at "pw"
    have h1 := List.length_filterMap_le Wk.roomOf w.bs
    have h2 := h.sb
    refine ⟨Nat.le_trans (by omega : _ ≤ 1000) (by decide), ?_⟩
    unfold Wk.ties at q
    rw [List.map_append, List.map_map] at q
    exact q
/-! ### what leaves a machine -/
theorem look_posK {κ : Type} [DecidableEq κ] : ∀ {es : List (κ × T)} {k : κ} {u : T}, look es k = some u → ∃ p, posK es k = some p ∧ (es.map (·.2))[p]? = some u
  | [], _, _, h => by simp [look] at h
  | (k0, u0) :: es, k, u, h => by
    by_cases e : k0 = k
    · subst e
      simp [look] at h
      exact ⟨0, by unfold posK; rw [List.findIdx?_cons]; simp, by simp [h]⟩
    · have h' : look es k = some u := by
        unfold look at h ⊢
        rw [List.find?_cons] at h
        simp [e] at h
        simpa using h
      obtain ⟨p, h1, h2⟩ := look_posK h'
      refine ⟨p + 1, ?_, by simpa using h2⟩
      unfold posK at h1 ⊢
      rw [List.findIdx?_cons]
      simp [e, h1]
theorem look_setV {κ : Type} [DecidableEq κ] : ∀ {es : List (κ × T)} {k k' : κ} {u : T} {p : Nat}, posK es k = some p → look (setV es p u) k' = if k' = k then some u else look es k'
  | [], _, _, _, _, h => by simp [posK] at h
  | (k0, u0) :: es, k, k', u, p, h => by
    unfold posK at h
    rw [List.findIdx?_cons] at h
    by_cases e : k0 = k
    · subst e
      simp at h
      subst h
      unfold setV look
      simp
      by_cases e2 : k0 = k'
      · subst e2; simp
      · simp [e2, Ne.symm e2]
    · simp [e] at h
      obtain ⟨p', h1, rfl⟩ := h
      have ih := look_setV (k' := k') (u := u) (es := es) (k := k) (p := p') h1
      have es' : setV ((k0, u0) :: es) (p' + 1) u = (k0, u0) :: setV es p' u := by
        unfold setV
        simp
        split <;> rfl
      rw [es']
      unfold look at ih ⊢
      rw [List.find?_cons, List.find?_cons]
      by_cases e2 : k0 = k'
      · subst e2; simp [e]
      · simp [e2]; simpa using ih
theorem look_snoc {κ α : Type} [DecidableEq κ] {es : List (κ × α)} {k k' : κ} {u : α} (h : look es k = none) : look (es ++ [(k, u)]) k' = if k' = k then some u else look es k' := by
  unfold look at h ⊢
  rw [List.find?_append]
  by_cases e : k' = k
  · subst e
    rw [Option.map_eq_none_iff] at h
    simp [h]
  · simp [e, Ne.symm e]
theorem look_eraseK : ∀ {es : List (Key × T)} {k : Key}, look (eraseK es) k = (look es k).map T.erase := by
  intro es k
  rw [eraseK_map]
  unfold look
  rw [List.find?_map]
  cases h : es.find? ((fun p : Key × D => decide (p.1 = k)) ∘ fun p : Key × T => (p.1, p.2.erase)) with
  | none =>
    have : es.find? (fun p => decide (p.1 = k)) = none := h
    simp [this]
  | some p =>
    have : es.find? (fun p => decide (p.1 = k)) = some p := h
    simp [this]
/-- the ties that leave x, and where each stands -/
def outs (ts : List Ti) (x : Str) : List (Ti × Nat) := ts.zipIdx.filter fun p => decide (p.1.start = x)
theorem outs_fst (ts : List Ti) (x : Str) : (outs ts x).map (·.1) = ts.filter fun t => decide (t.start = x) := by
  unfold outs
  have := List.filter_map (f := (fun p : Ti × Nat => p.1)) (p := fun t : Ti => decide (t.start = x)) (l := ts.zipIdx)
  rw [List.zipIdx_map_fst] at this
  rw [this]; rfl
def sp_leaving_of : PSp := fun ds R => ∃ ts : List Ti, ds = [.lst (ts.map encT)] ∧ ts.length ≤ 1000 ∧ ∀ es : List (Key × D), (∀ x : Str, look es (.inr x) = if outs ts x = [] then none else some (.lst ((outs ts x).map fun p => .int (p.2 : Int)))) → R (.dk es)
theorem l_leaving_of : ∀ ds R, sp_leaving_of ds R → ds.length = 1 := by rintro ds R ⟨w, rfl, _⟩; rfl
theorem enum_eq (ts : List Ti) : enumD (ts.map encT) = ts.zipIdx.map fun p => .tup [.int (p.2 : Int), encT p.1] := by
  unfold enumD
  apply List.ext_getElem?
  intro j
  simp [List.getElem?_zipIdx]
  cases ts[j]? <;> rfl
theorem p_leaving_of : ∀ ds R, sp_leaving_of ds R → w_leaving_of { nx := fun _ => R .non, rt := R } (startE 4 ds) := by
  rintro ds R ⟨ts, rfl, hl, q⟩
  unfold w_leaving_of
  walk_at "pw"
  rw [enum_eq]
  have look1 : ∀ (pre : List (Ti × Nat)) (x : Str) (p : Ti × Nat), (pre ++ [p]).filter (fun p => decide (p.1.start = x)) = pre.filter (fun p => decide (p.1.start = x)) ++ if p.1.start = x then [p] else [] := by
    intro pre x p
    rw [List.filter_append]
    by_cases e : p.1.start = x
    · rw [if_pos e, List.filter_cons_of_pos (by simp [e])]; rfl
    · rw [if_neg e, List.filter_cons_of_neg (by simp [e])]; rfl
  refine forW_inv (fun p : Ti × Nat => D.tup [.int (p.2 : Int), encT p.1]) (fun pre env => ∃ (es : List (Key × T)) (j2 j3 : Option T), env = [some (.st (.lst (ts.map encT))), some (.vk es), j2, j3] ∧ es.length ≤ pre.length ∧
    ∀ x : Str, look es (.inr x) = if pre.filter (fun p => decide (p.1.start = x)) = [] then none else some (.vl ((pre.filter fun p => decide (p.1.start = x)).map fun p => .st (.int (p.2 : Int))))) ⟨[], _, _, rfl, by simp, fun x => rfl⟩ ?_ ?_
  · rintro pre p post env N e ⟨es, j2, j3, rfl, hs, hk⟩ hN
    rw [show encT p.1 = D.tup [.tup [.str p.1.word, .str p.1.bin], .str p.1.start, .str p.1.goal, .int p.1.count] from rfl]
    walk_at "pw"
    have hz : pre.length ≤ 1000 := by
      have := congrArg List.length e
      simp at this
      omega
    have fl : (pre.filter fun p' => decide (p'.1.start = p.1.start)).length ≤ pre.length := List.length_filter_le _ _
    by_cases hf : pre.filter (fun p' => decide (p'.1.start = p.1.start)) = []
    · have h0 := hk p.1.start
      rw [if_pos hf] at h0
      have h1 : look (es ++ [((.inr p.1.start : Key), T.vl [])]) (.inr p.1.start) = some (.vl []) := by rw [look_snoc h0, if_pos rfl]
      obtain ⟨i, hi1, hi2⟩ := look_posK h1
      rw [h0]
      simp only [Option.isNone_none, if_true]
      refine ⟨by omega, i, hi1, [], hi2, by simp, ?_⟩
      refine hN _ ⟨_, _, _, rfl, ?_, fun x => ?_⟩
      · have : ∀ (es : List (Key × T)) (j : Nat) (u : T), (setV es j u).length = es.length := by
          intro es j u; unfold setV; split <;> simp
        rw [this]; simp; omega
      · rw [look_setV hi1, look_snoc h0, look1]
        by_cases ex : x = p.1.start
        · subst ex
          rw [if_pos rfl, hf]; simp
        · have ne : (Sum.inr x : Key) ≠ .inr p.1.start := fun q => ex (Sum.inr.inj q)
          rw [if_neg ne, if_neg ne, if_neg (Ne.symm ex), List.append_nil]
          exact hk x
    · have h0 := hk p.1.start
      rw [if_neg hf] at h0
      obtain ⟨i, hi1, hi2⟩ := look_posK h0
      rw [h0]
      simp only [Option.isNone_some, Bool.false_eq_true, if_false]
      refine ⟨by omega, i, hi1, _, hi2, by rw [List.length_map]; omega, ?_⟩
      refine hN _ ⟨_, _, _, rfl, ?_, fun x => ?_⟩
      · have : ∀ (es : List (Key × T)) (j : Nat) (u : T), (setV es j u).length = es.length := by
          intro es j u; unfold setV; split <;> simp
        rw [this]; simp; omega
      · rw [look_setV hi1, look1]
        by_cases ex : x = p.1.start
        · subst ex
          rw [if_pos rfl]; simp
        · have ne : (Sum.inr x : Key) ≠ .inr p.1.start := fun q => ex (Sum.inr.inj q)
          rw [if_neg ne, if_neg (Ne.symm ex), List.append_nil]
          exact hk x
  · rintro env ⟨es, j2, j3, rfl, hs, hk⟩
    walk_at "pw"
    have : (T.vk es).erase = .dk (eraseK es) := by simp [T.erase]
    rw [this]
    refine q _ fun x => ?_
    rw [look_eraseK, hk x]
    unfold outs
    split
    · rfl
    · rw [Option.map_some, erase_vl (f := fun p : Ti × Nat => D.int (p.2 : Int))]
/-! ### the order of a round -/
def intOf (i : Nat) (env : Env) : Nat := match env[i]? with
  | some (some (T.st (D.int k))) => k.toNat
  | _ => 0
theorem len_sub {xs ys : List Str} (nd : xs.Nodup) (h : ∀ x ∈ xs, x ∈ ys) : xs.length ≤ ys.length := List.Nodup.length_le_of_subset nd h
def sp_order_or_ring : PSp := fun ds R => ∃ (names : List Str) (ts : List Ti) (ord : List Str), ds = [.lst (names.map D.str), .lst (ts.map encT)] ∧ names.length ≤ 1000 ∧ ts.length ≤ 1000 ∧ names.Nodup ∧ (∀ t ∈ ts, t.start ∈ names ∧ t.goal ∈ names) ∧
  ord.Perm names ∧ (∀ t ∈ ts, ixOf ord t.start < ixOf ord t.goal) ∧ ∀ row : List Str, row.Perm names → (∀ t ∈ ts, ixOf row t.start < ixOf row t.goal) → R (.tup [.str "order", .lst (row.map D.str)])
theorem l_order_or_ring : ∀ ds R, sp_order_or_ring ds R → ds.length = 2 := by rintro ds R ⟨a, b, c, rfl, _⟩; rfl
def order2 : SW :=
    (sSeq (sAsg 4 (wCall sp_leaving_of (wCons (wV 1) wNil)))
    (sSeq (sNew 5 (wLc (wItS (wV 0)) (.nm 8) (wTest (wOp fEqA (wOp fGet (wV 2) (wV 8)) (wC (.int 0)))) (wNw (wV 8)) [8]))
    (sSeq (sAsg 6 (wC (.int 0)))
    (sSeq (sWhile (wTest (wOp fLt (wV 6) (wCB fLen (wCons (wV 5) wNil)))) (sSeq (sFor (wItS (wGet2 (wV 4) (wOp fGet (wV 5) (wV 6)) (wFz (wLst wNil)))) (.nm 7) (sSeq (sAsg 9 (wOp fGet (wOp fGet (wV 1) (wV 7)) (wC (.int 2))))
    (sSeq (sDAug 2 (fun i j => i - j) (wV 9) (wC (.int 1)))
    (sIf (wTest (wOp fEqA (wOp fGet (wV 2) (wV 9)) (wC (.int 0)))) (sApp 5 (wV 9)) sNext))))
    (sAugI 6 (fun i j => i + j) (wC (.int 1)))))
    (sSeq (sIf (wTest (wOp fEqA (wCB fLen (wCons (wV 5) wNil)) (wCB fLen (wCons (wV 0) wNil)))) (sFrz 5 (sRet (wTup (wCons (wC (.str "order")) (wCons (wV 5) wNil))))) sNext)
    sNever)))))
def w_order_or_ring : SW := (sSeq (sNew 2 (wDc (wItS (wV 0)) (.nm 8) wYes (wV 8) (wNw (wC (.int 0))) [8]))
    (sSeq (sFor (wItS (wV 1)) (.nm 3) (sDAug 2 (fun i j => i + j) (wOp fGet (wV 3) (wC (.int 2))) (wC (.int 1))))
    order2))
theorem order2_ok {names : List Str} {ts : List Ti} {ord : List Str} {R : D → Prop} {g0 : Str → Int} {j3 : Option T} (hn : names.length ≤ 1000) (ht : ts.length ≤ 1000) (nd : names.Nodup) (hts : ∀ t ∈ ts, t.start ∈ names ∧ t.goal ∈ names)
    (ho : ord.Perm names) (top : ∀ t ∈ ts, ixOf ord t.start < ixOf ord t.goal) (q : ∀ row : List Str, row.Perm names → (∀ t ∈ ts, ixOf row t.start < ixOf row t.goal) → R (.tup [.str "order", .lst (row.map D.str)])) (hg : ∀ x ∈ names, g0 x = ts.countP fun t => decide (t.goal = x)) :
    order2 { nx := fun _ => R .non, rt := R } [some (.st (.lst (names.map D.str))), some (.st (.lst (ts.map encT))), some (.vk (names.map fun x => ((.inr x : Key), T.st (.int (g0 x))))), j3, none, none, none, none, none, none] := by
  have k0 := KI.init hg nd fun t h => (hts t h).2
  unfold order2
  walk_at "pw"
  refine ⟨ts, rfl, ht, fun lv hlv => ?_⟩
  walk_at "pw"
  refine ⟨by omega, compW_filt D.str (fun x => decide (g0 x = 0)) (fun x => .st (.str x)) (fun x hx R hR => ?_) ?_⟩
  · walk_at "pw"
    refine ⟨_, by rw [look_tab hx], ?_⟩
    walk_at "pw"
    by_cases h : g0 x = 0
    · rw [if_pos h]; simpa [h] using hR
    · rw [if_neg h]; simpa [h] using hR
  refine while_inv (fun env => ∃ (row : List Str) (a : Nat) (g : Str → Int) (j3 j7 j9 : Option T), env = [some (.st (.lst (names.map D.str))), some (.st (.lst (ts.map encT))), some (.vk (names.map fun x => ((.inr x : Key), T.st (.int (g x))))), j3, some (.st (.dk lv)), some (.vl (row.map fun x => .st (.str x))), some (.st (.int a)), j7, none, j9] ∧ KI names ts row a [] g) (fun env => names.length - intOf 6 env) ⟨_, 0, _, _, _, _, rfl, k0⟩ ?_
  rintro env N ⟨row, a, g, j3, j7, j9, rfl, K⟩ hN
  have hrl := len_sub K.rnd K.rsub
  walk_at "pw"
  split
  · rename_i hlt
    have ha : a < row.length := by omega
    have hx : row[a]? = some row[a] := List.getElem?_eq_getElem ha
    generalize row[a] = x0 at hx
    rw [atI_get, List.getElem?_map, hx]
    simp only [Option.map_some]
    have ei : ∃ ds, ((Option.map T.st (look lv (Sum.inr x0))).getD (T.st (T.vl []).erase)).it? = some ds ∧ ds = (outs ts x0).map fun p => D.int (p.2 : Int) := by
      rw [hlv x0]
      by_cases h : outs ts x0 = []
      · rw [if_pos h, h]; exact ⟨[], by simp [T.erase, erases, T.it?], rfl⟩
      · rw [if_neg h]; exact ⟨_, rfl, rfl⟩
    obtain ⟨ds, ei, rfl⟩ := ei
    walk_at "pw"
    refine ⟨by omega, _, ei, ?_⟩
    refine forW_inv (fun p : Ti × Nat => D.int (p.2 : Int)) (fun pre env => ∃ (row' : List Str) (g : Str → Int) (j3 j7 j9 : Option T), env = [some (.st (.lst (names.map D.str))), some (.st (.lst (ts.map encT))), some (.vk (names.map fun x => ((.inr x : Key), T.st (.int (g x))))), j3, some (.st (.dk lv)), some (.vl (row'.map fun x => .st (.str x))), some (.st (.int a)), j7, none, j9] ∧ row'[a]? = some x0 ∧ KI names ts row' a (pre.map (·.1)) g) ⟨row, g, _, _, _, rfl, hx, K⟩ ?_ ?_
    · rintro pre p post env N2 e ⟨row', g', j3, j7, j9, rfl, hx', K'⟩ hN2
      have e1 : pre.map (·.1) ++ p.1 :: post.map (·.1) = ts.filter fun t => decide (t.start = x0) := by
        rw [← outs_fst, e]; simp
      obtain ⟨s1, s2, s3, s4⟩ := K'.step hx' e1 fun t h => (hts t h).2
      have hpm : p ∈ ts.zipIdx := by
        have : p ∈ outs ts x0 := by rw [e]; simp
        exact (List.mem_filter.mp this).1
      have hpg : ts[p.2]? = some p.1 := by
        have := List.mem_zipIdx_iff_getElem?.mp hpm
        exact this
      have hrl' := len_sub K'.rnd K'.rsub
      have ha' : a < row'.length := (List.getElem?_eq_some_iff.mp hx').1
      walk_at "pw"
      rw [atI_get, List.getElem?_map, hpg]
      simp only [Option.map_some]
      rw [show encT p.1 = D.tup [.tup [.str p.1.word, .str p.1.bin], .str p.1.start, .str p.1.goal, .int p.1.count] from rfl]
      walk_at "pw"
      refine ⟨_, by rw [look_tab s3], by omega, ?_⟩
      rw [put_tab s3, upd1_comp (f := fun i : Int => T.st (D.int i)) (g := g')]
      refine ⟨_, by rw [look_tab s3], ?_⟩
      walk_at "pw"
      rw [upd1_same]
      split
      · rename_i hz
        rw [if_pos hz] at s4
        refine ⟨by omega, hN2 _ ⟨row' ++ [p.1.goal], _, _, _, _, by rw [List.map_append]; rfl, by rw [List.getElem?_append_left ha', hx'], by rw [List.map_append]; exact s4⟩⟩
      · rename_i hz
        rw [if_neg hz] at s4
        refine hN2 _ ⟨row', _, _, _, _, rfl, hx', by rw [List.map_append]; exact s4⟩
    · rintro env ⟨row', g', j3, j7, j9, rfl, hx', K'⟩
      rw [outs_fst] at K'
      have K2 := K'.turn hx'
      have hrl' := len_sub K'.rnd K'.rsub
      walk_at "pw"
      refine hN _ ⟨row', a + 1, g', _, _, _, rfl, K2⟩ ?_
      have ha' : a < row'.length := (List.getElem?_eq_some_iff.mp hx').1
      show names.length - ((a : Int) + 1).toNat < names.length - (a : Int).toNat
      omega
  · have hp := K.done (by omega) nd ho top fun t h => (hts t h).1
    rw [if_pos (by have := hp.length_eq; omega)]
    have e : (T.vl (row.map fun x => T.st (D.str x))).erase = .lst (row.map D.str) := erase_strs row
    rw [e]
    exact ⟨by omega, q row hp fun t h => (K.top t h (hp.mem_iff.mpr (hts t h).2)).2⟩
theorem p_order_or_ring : ∀ ds R, sp_order_or_ring ds R → w_order_or_ring { nx := fun _ => R .non, rt := R } (startE 10 ds) := by
  rintro ds R ⟨names, ts, ord, rfl, hn, ht, nd, hts, ho, top, q⟩
  unfold w_order_or_ring
  walk_at "pw"
  refine ⟨by omega, compD_map D.str (fun x => .inr x) (fun _ => .st (.int 0)) (fun x _ R hR => ?_) ?_ (fun x _ => rfl) ?_⟩
  · walk_at "pw"; exact hR
  · exact List.Pairwise.map _ (fun a b hab e => hab (Sum.inr.inj e)) nd
  rw [List.nil_append]
  refine forW_inv encT (fun pre env => ∃ j3, env = [some (.st (.lst (names.map D.str))), some (.st (.lst (ts.map encT))), some (.vk (names.map fun x => ((.inr x : Key), T.st (.int (pre.countP fun t => decide (t.goal = x)))))), j3, none, none, none, none, none, none]) ⟨_, rfl⟩ ?_ ?_
  · rintro pre t post env N e ⟨j3, rfl⟩ hN
    have hg : t.goal ∈ names := (hts t (by rw [e]; simp)).2
    rw [show encT t = D.tup [.tup [.str t.word, .str t.bin], .str t.start, .str t.goal, .int t.count] from rfl]
    walk_at "pw"
    refine ⟨_, by rw [look_tab hg], by omega, ?_⟩
    rw [put_tab hg, upd1_comp (f := fun i : Int => T.st (D.int i)) (g := fun x => ((pre.countP fun t => decide (t.goal = x) : Nat) : Int))]
    have : (fun x : Str => ((.inr x : Key), T.st (D.int (upd1 (fun x => ((pre.countP fun t => decide (t.goal = x) : Nat) : Int)) t.goal (((pre.countP fun t' => decide (t'.goal = t.goal) : Nat) : Int) + 1) x)))) = fun x => ((.inr x : Key), T.st (D.int ((pre ++ [t]).countP fun t => decide (t.goal = x) : Nat))) := by
      funext x
      rw [List.countP_append, List.countP_singleton]
      unfold upd1
      by_cases ex : x = t.goal
      · subst ex; simp
      · simp [ex, Ne.symm ex]
    rw [this]
    exact hN _ ⟨_, rfl⟩
  rintro env ⟨j3, rfl⟩
  exact order2_ok hn ht nd hts ho top q fun x _ => rfl
end Pw
namespace Pw
open PySem PySem.Spec PyProof.Rows L2
local macro_rules | `(tactic| walk_at "pw") => `(tactic| simp only [wV, wC, wOp, wUn, wTest, wAnd, wOr, wNot, wTru, wIf, wNil, wCons, wTup, wLst, wFz, wNw, wDk, wDt, wCB, wM, wM1, wCall, wGet2, wSl, wSo, wNo, wRev, wItS, wRg1, wRg2, wRg3, wEnum, wLc, wDc, wDisp, wPairs, wYes, sNext, sSeq, sAsg, sNew, sAsgT, sFrz, sDrop, sRet, sRetV, sRetN, sIf, sFor, sAugI, sApp, sSet, sSet2, sApp2, sDAug, sAppPop, sSdApp, sExt, sNever, setT_nm, setT_tp, setTs_nil, setTs_cons, T.it?, T.il?, plainL, startE, wipeE, List.map_cons, List.map_nil, List.length_cons, List.length_nil, List.replicate_succ, List.replicate_zero, List.cons_append, List.nil_append, List.append_nil, List.getElem?_cons_zero, List.getElem?_cons_succ, List.set_cons_zero, List.set_cons_succ, Option.some.injEq, T.st.injEq, T.vl.injEq, T.vk.injEq, D.tup.injEq, D.lst.injEq, D.int.injEq, D.str.injEq, D.bl.injEq, List.cons.injEq, exists_eq', exists_eq, Int.toNat_natCast, rng_eq, List.length_map, List.length_range, exists_eq_left', exists_eq_left, exists_and_left, and_true, true_and, Option.bind_some, Option.map_some, fGet_tup, fGet_lst, fGet_vl, fGet_str, fGet_dk, fGet_vk, fII_st, fAdd_int, fAdd_str, fAdd_lst, fAdd_lv, fEqA_int, fEqA_str, fNotN_non, fNotN_int, fIsN_non, fIsN_int, fLen_lst, fLen_tup, fLen_vl, fLen_str, dl_strN, dl_lst, reduceCtorEq, false_and, and_false, exists_false, false_or, or_false, fInt_int, fInt_bl, fTuple_lst, fTuple_vl, fTuple_tup, fList_tup, fList_lst, fMax_2, fMax_3, fMin_2, atI_0, atI_1, atI_2, atI_3, atI_4, erase_st, decide_eq_true_eq, Bool.false_eq_true, if_true, if_false, take_iff, isD_vk, isD_dk, gV, gD, pV, posV, sz_vk, sz_vl, kK_str, ch_vk, ch_vl, setCh_vk, setCh_vl, atI_tab, Option.getD_some, Option.getD_none, ite_true, ite_false])

namespace Wk
/-- the ties of nothing -/
def empties (w : Wk) : List Ti := w.ties.filter fun t => decide (t.count = 0)
/-- a row in which no machine stands behind one that waits for it in the same round -/
def Topo (w : Wk) (row : List Str) : Prop := ∀ t ∈ w.ties, t.count = 0 → ixOf row t.start < ixOf row t.goal
/-- the ties that come to x -/
def ins (w : Wk) (x : Str) : List Ti := w.ties.filter fun t => decide (t.goal = x)
theorem Ok.tie_len {w : Wk} (h : w.Ok) : w.ties.length ≤ 200 := by
  have := w.ties_len
  have := h.sb
  omega
theorem Ok.nlen {w : Wk} (h : w.Ok) : w.names.length ≤ 100 := by
  unfold names; rw [List.length_map]; exact h.sm
theorem Ok.npos {w : Wk} (h : w.Ok) : 0 < w.names.length := by
  unfold names; rw [List.length_map]; exact List.length_pos_iff.mpr h.ne
theorem empties_mem {w : Wk} {t : Ti} : t ∈ w.empties ↔ t ∈ w.ties ∧ t.count = 0 := by simp [empties]
end Wk
def sp_goes_on : PSp := fun ds R => ∃ w : Wk, ds = [enc w] ∧ w.Ok ∧ w.Endless ∧ ∀ row : List Str, row.Perm w.names → w.Topo row → R (.tup [.str "endless", .tup (row.map D.str)])
theorem l_goes_on : ∀ ds R, sp_goes_on ds R → ds.length = 1 := by rintro ds R ⟨w, rfl, _⟩; rfl
def sp_check_endless : PSp := fun ds R => ∃ w : Wk, ds = [enc w] ∧ w.Ok ∧ w.Endless ∧ R .non
theorem l_check_endless : ∀ ds R, sp_check_endless ds R → ds.length = 1 := by rintro ds R ⟨w, rfl, _⟩; rfl
def sp_round_order : PSp := fun ds R => ∃ w : Wk, ds = [enc w] ∧ w.Ok ∧ w.Endless ∧ ∀ row : List Str, row.Perm w.names → w.Topo row → R (.lst (row.map D.str))
theorem l_round_order : ∀ ds R, sp_round_order ds R → ds.length = 1 := by rintro ds R ⟨w, rfl, _⟩; rfl
def encS (w : Wk) (x : Str) : D := .tup [.int (ixOf w.names x), .lst ((w.ins x).map fun t => .tup [.int (ixOf w.names t.start), .int t.count, .int (w.time t.start)])]
def sp_inner_order : PSp := fun ds R => ∃ (w : Wk) (row : List Str), ds = [enc w, .lst (row.map D.str)] ∧ w.Ok ∧ row.length ≤ 1000 ∧ (∀ x ∈ row, x ∈ w.names) ∧ R (.lst (row.map (encS w)))
theorem l_inner_order : ∀ ds R, sp_inner_order ds R → ds.length = 2 := by rintro ds R ⟨w, row, rfl, _⟩; rfl
def w_goes_on : SW := (sSeq (sAsg 1 (wFz (wLc (wItS (wCall sp_ties_of (wCons (wV 0) wNil))) (.nm 4) (wTest (wOp fEqA (wOp fGet (wV 4) (wC (.int 3))) (wC (.int 0)))) (wNw (wV 4)) [4])))
    (sSeq (sAsgT (.tp ((.nm 2) :: ((.nm 3) :: []))) (wCall sp_order_or_ring (wCons (wCall sp_names_of (wCons (wV 0) wNil)) (wCons (wV 1) wNil))))
    (sSeq (sIf (wTest (wOp fEqA (wV 2) (wC (.str "order")))) (sRet (wTup (wCons (wC (.str "endless")) (wCons (wCB fTuple (wCons (wV 3) wNil)) wNil)))) sNext)
    sNever)))
def w_check_endless : SW := (sIf (wTest (wOp fEqA (wOp fGet (wCall sp_goes_on (wCons (wV 0) wNil)) (wC (.int 0))) (wC (.str "stuck")))) sNever sNext)
def w_round_order : SW := (sSeq (sAsg 1 (wFz (wLc (wItS (wCall sp_ties_of (wCons (wV 0) wNil))) (.nm 5) (wTest (wOp fEqA (wOp fGet (wV 5) (wC (.int 3))) (wC (.int 0)))) (wNw (wV 5)) [5])))
    (sSeq (sNew 2 (wDc (wItS (wCall sp_names_of (wCons (wV 0) wNil))) (.nm 6) wYes (wV 6) (wNw (wCB fLen (wCons (wFz (wLc (wItS (wV 1)) (.nm 5) (wTest (wOp fEqA (wOp fGet (wV 5) (wC (.int 2))) (wV 6))) (wNw (wV 5)) [5])) wNil))) [6]))
    (sSeq (sNew 3 (wLc (wItS (wCall sp_names_of (wCons (wV 0) wNil))) (.nm 6) (wTest (wOp fEqA (wOp fGet (wV 2) (wV 6)) (wC (.int 0)))) (wNw (wV 6)) [6]))
    (sSeq (sAsg 4 (wC (.int 0)))
    (sSeq (sWhile (wTest (wOp fLt (wV 4) (wCB fLen (wCons (wV 3) wNil)))) (sSeq (sFor (wItS (wV 1)) (.nm 5) (sIf (wTest (wOp fEqA (wOp fGet (wV 5) (wC (.int 1))) (wOp fGet (wV 3) (wV 4)))) (sSeq (sDAug 2 (fun i j => i - j) (wOp fGet (wV 5) (wC (.int 2))) (wC (.int 1)))
    (sIf (wTest (wOp fEqA (wOp fGet (wV 2) (wOp fGet (wV 5) (wC (.int 2)))) (wC (.int 0)))) (sApp 3 (wOp fGet (wV 5) (wC (.int 2)))) sNext)) sNext))
    (sAugI 4 (fun i j => i + j) (wC (.int 1)))))
    (sFrz 3 (sRet (wV 3))))))))
def w_inner_order : SW := (sSeq (sAsg 2 (wCall sp_names_of (wCons (wV 0) wNil)))
    (sSeq (sAsg 3 (wCall sp_times_of (wCons (wV 0) wNil)))
    (sSeq (sNew 4 (wLst wNil))
    (sSeq (sFor (wItS (wV 1)) (.nm 5) (sSeq (sAsg 6 (wFz (wLc (wItS (wCall sp_ties_of (wCons (wV 0) wNil))) (.tp ((.nm 7) :: ((.nm 8) :: ((.nm 9) :: ((.nm 10) :: []))))) (wTest (wOp fEqA (wV 9) (wV 5))) (wNw (wTup (wCons (wM fIndex (wV 2) (wCons (wV 8) wNil)) (wCons (wV 10) (wCons (wOp fGet (wV 3) (wV 8)) wNil))))) [7, 8, 9, 10])))
    (sApp 4 (wTup (wCons (wM fIndex (wV 2) (wCons (wV 5) wNil)) (wCons (wV 6) wNil))))))
    (sFrz 4 (sRet (wV 4)))))))

theorem encT_eq (t : Ti) : encT t = D.tup [.tup [.str t.word, .str t.bin], .str t.start, .str t.goal, .int t.count] := rfl
theorem p_goes_on : ∀ ds R, sp_goes_on ds R → w_goes_on { nx := fun _ => R .non, rt := R } (startE 6 ds) := by
  rintro ds R ⟨w, rfl, h, ⟨ord, ho, top⟩, q⟩
  have tl := h.tie_len
  unfold w_goes_on
  walk_at "pw"
  refine ⟨w, rfl, h, ?_⟩
  walk_at "pw"
  refine ⟨by omega, compW_filt encT (fun t => decide (t.count = 0)) (fun t => .st (encT t)) (fun t ht R hR => ?_) ?_⟩
  · rw [encT_eq] at hR ⊢
    walk_at "pw"
    by_cases hc : t.count = 0
    · rw [if_pos hc]; simpa [hc] using hR
    · rw [if_neg hc]; simpa [hc] using hR
  rw [erase_vl (f := encT)]
  refine ⟨w, rfl, h, ?_⟩
  walk_at "pw"
  refine ⟨w.names, w.empties, ord, rfl, by have := h.nlen; omega, Nat.le_trans (List.length_filter_le _ _) (by omega), h.nd, fun t ht => h.tie (Wk.empties_mem.mp ht).1, ho, fun t ht => top t (Wk.empties_mem.mp ht).1 (Wk.empties_mem.mp ht).2, fun row hp ht => ?_⟩
  walk_at "pw"
  exact ⟨by omega, q row hp fun t h1 h2 => ht t (Wk.empties_mem.mpr ⟨h1, h2⟩)⟩
theorem p_check_endless : ∀ ds R, sp_check_endless ds R → w_check_endless { nx := fun _ => R .non, rt := R } (startE 1 ds) := by
  rintro ds R ⟨w, rfl, h, he, q⟩
  unfold w_check_endless
  walk_at "pw"
  refine ⟨w, rfl, h, he, fun row _ _ => ?_⟩
  walk_at "pw"
  rw [if_neg (by decide +kernel)]
  exact q
theorem p_inner_order : ∀ ds R, sp_inner_order ds R → w_inner_order { nx := fun _ => R .non, rt := R } (startE 11 ds) := by
  rintro ds R ⟨w, row, rfl, h, hl, hr, q⟩
  have tl := h.tie_len
  unfold w_inner_order
  walk_at "pw"
  refine ⟨w, rfl, h, ?_⟩
  walk_at "pw"
  refine ⟨w, rfl, h, ?_⟩
  unfold encTimes
  walk_at "pw"
  refine ⟨by omega, ?_⟩
  refine forW_inv D.str (fun pre env => ∃ (j5 j6 : Option T), env = [some (.st (enc w)), some (.st (.lst (row.map D.str))), some (.st (.lst (w.names.map D.str))), some (.st (encTimes w)), some (.vl (pre.map fun x => .st (encS w x))), j5, j6, none, none, none, none]) ⟨_, _, rfl⟩ ?_ ?_
  · rintro pre x post env N e ⟨j5, j6, rfl⟩ hN
    have hx : x ∈ w.names := hr x (by rw [e]; simp)
    unfold encTimes at hN ⊢
    walk_at "pw"
    refine ⟨w, rfl, h, ?_⟩
    walk_at "pw"
    refine ⟨by omega, compW_filt encT (fun t => decide (t.goal = x)) (fun t => .st (.tup [.int (ixOf w.names t.start), .int t.count, .int (w.time t.start)])) (fun t ht R hR => ?_) ?_⟩
    · rw [encT_eq]
      walk_at "pw"
      by_cases hc : t.goal = x
      · rw [if_pos hc]
        refine ⟨⟨_, rfl⟩, fIndex_strs (h.tie ht).1 ?_⟩
        refine ⟨_, by rw [look_times h (h.tie ht).1], ?_⟩
        walk_at "pw"
        refine ⟨by omega, ?_⟩
        simpa [hc] using hR
      · rw [if_neg hc]; simpa [hc] using hR
    rw [erase_vl (f := fun t : Ti => D.tup [.int (ixOf w.names t.start), .int t.count, .int (w.time t.start)])]
    refine ⟨?_, ⟨_, rfl⟩, fIndex_strs hx ?_⟩
    · have := congrArg List.length e; simp at this; omega
    · walk_at "pw"
      rw [List.map_append] at hN
      exact ⟨by omega, hN _ ⟨_, _, rfl⟩⟩
  · rintro env ⟨j5, j6, rfl⟩
    walk_at "pw"
    rw [erase_vl (f := encS w)]
    exact q
theorem p_round_order : ∀ ds R, sp_round_order ds R → w_round_order { nx := fun _ => R .non, rt := R } (startE 7 ds) := by
  rintro ds R ⟨w, rfl, h, ⟨ord, ho, top⟩, q⟩
  have tl := h.tie_len
  have nl := h.nlen
  have hts : ∀ t ∈ w.empties, t.start ∈ w.names ∧ t.goal ∈ w.names := fun t ht => h.tie (Wk.empties_mem.mp ht).1
  unfold w_round_order
  walk_at "pw"
  refine ⟨w, rfl, h, ?_⟩
  walk_at "pw"
  refine ⟨by omega, compW_filt encT (fun t => decide (t.count = 0)) (fun t => .st (encT t)) (fun t ht R hR => ?_) ?_⟩
  · rw [encT_eq] at hR ⊢
    walk_at "pw"
    by_cases hc : t.count = 0
    · rw [if_pos hc]; simpa [hc] using hR
    · rw [if_neg hc]; simpa [hc] using hR
  rw [erase_vl (f := encT), show w.ties.filter (fun t => decide (t.count = 0)) = w.empties from rfl]
  refine ⟨w, rfl, h, ?_⟩
  walk_at "pw"
  have el : w.empties.length ≤ 200 := Nat.le_trans (List.length_filter_le _ _) tl
  refine ⟨by omega, compD_map D.str (fun x => .inr x) (fun x => .st (.int (w.empties.countP fun t => decide (t.goal = x)))) (fun x _ R hR => ?_) ?_ (fun x _ => rfl) ?_⟩
  · walk_at "pw"
    refine ⟨by omega, compW_filt encT (fun t => decide (t.goal = x)) (fun t => .st (encT t)) (fun t ht R hR => ?_) ?_⟩
    · rw [encT_eq] at hR ⊢
      walk_at "pw"
      by_cases hc : t.goal = x
      · rw [if_pos hc]; simpa [hc] using hR
      · rw [if_neg hc]; simpa [hc] using hR
    rw [erase_vl (f := encT)]
    walk_at "pw"
    rw [← List.countP_eq_length_filter]
    exact hR
  · exact List.Pairwise.map _ (fun a b hab e => hab (Sum.inr.inj e)) h.nd
  rw [List.nil_append]
  have hg : ∀ x ∈ w.names, (fun x : Str => ((w.empties.countP fun t => decide (t.goal = x) : Nat) : Int)) x = w.empties.countP fun t => decide (t.goal = x) := fun x _ => rfl
  have k0 := KI.init hg h.nd fun t h => (hts t h).2
  refine ⟨w, rfl, h, ?_⟩
  walk_at "pw"
  refine ⟨by omega, compW_filt D.str (fun x => decide (((w.empties.countP fun t => decide (t.goal = x) : Nat) : Int) = 0)) (fun x => .st (.str x)) (fun x hx R hR => ?_) ?_⟩
  · walk_at "pw"
    refine ⟨_, by rw [look_tab hx], ?_⟩
    walk_at "pw"
    by_cases hc : ((w.empties.countP fun t => decide (t.goal = x) : Nat) : Int) = 0
    · rw [if_pos hc]; rw [if_pos (by rw [decide_eq_true_eq]; exact hc)] at hR; exact hR
    · rw [if_neg hc]; rw [if_neg (by rw [decide_eq_true_eq]; exact hc)] at hR; exact hR
  refine while_inv (fun env => ∃ (row : List Str) (a : Nat) (g : Str → Int) (j5 : Option T), env = [some (.st (enc w)), some (.st (.lst (w.empties.map encT))), some (.vk (w.names.map fun x => ((.inr x : Key), T.st (.int (g x))))), some (.vl (row.map fun x => .st (.str x))), some (.st (.int a)), j5, none] ∧ KI w.names w.empties row a [] g) (fun env => w.names.length - intOf 4 env) ⟨_, 0, _, _, rfl, k0⟩ ?_
  rintro env N ⟨row, a, g, j5, rfl, K⟩ hN
  have hrl := len_sub K.rnd K.rsub
  walk_at "pw"
  split
  · rename_i hlt
    have ha : a < row.length := by omega
    have hx : row[a]? = some row[a] := List.getElem?_eq_getElem ha
    generalize row[a] = x0 at hx
    refine forW_inv encT (fun pre env => ∃ (row' : List Str) (g : Str → Int) (j5 : Option T), env = [some (.st (enc w)), some (.st (.lst (w.empties.map encT))), some (.vk (w.names.map fun x => ((.inr x : Key), T.st (.int (g x))))), some (.vl (row'.map fun x => .st (.str x))), some (.st (.int a)), j5, none] ∧ row'[a]? = some x0 ∧ KI w.names w.empties row' a (pre.filter fun t => decide (t.start = x0)) g) ⟨row, g, _, rfl, hx, K⟩ ?_ ?_
    · rintro pre t post env N2 e ⟨row', g', j5, rfl, hx', K'⟩ hN2
      have hrl' := len_sub K'.rnd K'.rsub
      have ha' : a < row'.length := (List.getElem?_eq_some_iff.mp hx').1
      rw [encT_eq]
      walk_at "pw"
      rw [atI_get, List.getElem?_map, hx']
      simp only [Option.map_some]
      walk_at "pw"
      by_cases hs : t.start = x0
      · have e1 : pre.filter (fun t => decide (t.start = x0)) ++ t :: post.filter (fun t => decide (t.start = x0)) = w.empties.filter fun t => decide (t.start = x0) := by
          rw [e, List.filter_append, List.filter_cons_of_pos (by simp [hs])]
        have e2 : (pre ++ [t]).filter (fun t => decide (t.start = x0)) = pre.filter (fun t => decide (t.start = x0)) ++ [t] := by
          rw [List.filter_append, List.filter_cons_of_pos (by simp [hs])]; rfl
        obtain ⟨s1, s2, s3, s4⟩ := K'.step hx' e1 fun t h => (hts t h).2
        rw [if_pos hs]
        refine ⟨_, by rw [look_tab s3], by omega, ?_⟩
        rw [put_tab s3, upd1_comp (f := fun i : Int => T.st (D.int i)) (g := g')]
        refine ⟨_, by rw [look_tab s3], ?_⟩
        walk_at "pw"
        rw [upd1_same]
        split
        · rename_i hz
          rw [if_pos hz] at s4
          refine ⟨by omega, hN2 _ ⟨row' ++ [t.goal], _, _, by rw [List.map_append]; rfl, by rw [List.getElem?_append_left ha', hx'], by rw [e2]; exact s4⟩⟩
        · rename_i hz
          rw [if_neg hz] at s4
          refine hN2 _ ⟨row', _, _, rfl, hx', by rw [e2]; exact s4⟩
      · have e2 : (pre ++ [t]).filter (fun t => decide (t.start = x0)) = pre.filter (fun t => decide (t.start = x0)) := by
          rw [List.filter_append, List.filter_cons_of_neg (by simp [hs])]; simp
        rw [if_neg hs]
        exact hN2 _ ⟨row', g', _, rfl, hx', by rw [e2]; exact K'⟩
    · rintro env ⟨row', g', j5, rfl, hx', K'⟩
      have K2 := K'.turn hx'
      have hrl' := len_sub K'.rnd K'.rsub
      walk_at "pw"
      refine hN _ ⟨row', a + 1, g', _, rfl, K2⟩ ?_
      have ha' : a < row'.length := (List.getElem?_eq_some_iff.mp hx').1
      show w.names.length - ((a : Int) + 1).toNat < w.names.length - (a : Int).toNat
      omega
  · have hp := K.done (by omega) h.nd ho (fun t h => top t (Wk.empties_mem.mp h).1 (Wk.empties_mem.mp h).2) fun t h => (hts t h).1
    rw [erase_strs row]
    exact q row hp fun t h1 h2 => (K.top t (Wk.empties_mem.mpr ⟨h1, h2⟩) (hp.mem_iff.mpr (hts t (Wk.empties_mem.mpr ⟨h1, h2⟩)).2)).2
end Pw
namespace Pw
open PySem PySem.Spec PyProof.Rows L2
theorem posL {ts : List T} {i : Int} : (T.vl ts).pos? (.int i) = ixN ts.length i := rfl
theorem putL_vl {ts : List T} {i : Int} {d : D} : (T.vl ts).put? (.int i) d = (ixN ts.length i).map fun j => .vl (ts.set j (.st d)) := rfl
theorem gDt {es : List (List Key × D)} {p k : Int} : (T.st (.dt es)).get? (.tup [.int p, .int k]) = some ((look es [.inl p, .inl k]).map .st) := rfl
local macro_rules | `(tactic| walk_at "pw") => `(tactic| simp only [wV, wC, wOp, wUn, wTest, wAnd, wOr, wNot, wTru, wIf, wNil, wCons, wTup, wLst, wFz, wNw, wDk, wDt, wCB, wM, wM1, wCall, wGet2, wSl, wSo, wNo, wRev, wItS, wRg1, wRg2, wRg3, wEnum, wLc, wDc, wDisp, wPairs, wYes, sNext, sSeq, sAsg, sNew, sAsgT, sFrz, sDrop, sRet, sRetV, sRetN, sIf, sFor, sAugI, sApp, sSet, sSet2, sApp2, sDAug, sAppPop, sSdApp, sExt, sNever, setT_nm, setT_tp, setTs_nil, setTs_cons, T.it?, T.il?, plainL, startE, wipeE, List.map_cons, List.map_nil, List.length_cons, List.length_nil, List.replicate_succ, List.replicate_zero, List.cons_append, List.nil_append, List.append_nil, List.getElem?_cons_zero, List.getElem?_cons_succ, List.set_cons_zero, List.set_cons_succ, Option.some.injEq, T.st.injEq, T.vl.injEq, T.vk.injEq, D.tup.injEq, D.lst.injEq, D.int.injEq, D.str.injEq, D.bl.injEq, List.cons.injEq, exists_eq', exists_eq, Int.toNat_natCast, rng_eq, List.length_map, List.length_range, exists_eq_left', exists_eq_left, exists_and_left, and_true, true_and, Option.bind_some, Option.map_some, fGet_tup, fGet_lst, fGet_vl, fGet_str, fGet_dk, fGet_vk, fII_st, fAdd_int, fAdd_str, fAdd_lst, fAdd_lv, fEqA_int, fEqA_str, fNotN_non, fNotN_int, fIsN_non, fIsN_int, fLen_lst, fLen_tup, fLen_vl, fLen_str, dl_strN, dl_lst, reduceCtorEq, false_and, and_false, exists_false, false_or, or_false, fInt_int, fInt_bl, fTuple_lst, fTuple_vl, fTuple_tup, fList_tup, fList_lst, fMax_2, fMax_3, fMin_2, atI_0, atI_1, atI_2, atI_3, atI_4, erase_st, decide_eq_true_eq, Bool.false_eq_true, if_true, if_false, take_iff, isD_vk, isD_dk, gV, gD, pV, posV, sz_vk, sz_vl, kK_str, ch_vk, ch_vl, setCh_vk, setCh_vl, atI_tab, Option.getD_some, Option.getD_none, posL, putL_vl, gDt, ite_true, ite_false])

/-! ### the first starts -/
namespace Wk
/-- what the ties that come to x ask of it in round k -/
def preds (w : Wk) (f : Str → Nat → Int) (x : Str) (k : Nat) : List Int := ((w.ins x).filter fun t : Ti => decide (t.count ≤ (k : Int))).map fun t : Ti => f t.start (k - t.count.toNat) + w.time t.start
def Rec (w : Wk) (comb : Str → Nat → List Int → Int) (f : Str → Nat → Int) : Prop := ∀ x ∈ w.names, ∀ k, f x k = comb x k (w.preds f x k)
theorem ins_mem {w : Wk} {t : Ti} {x : Str} : t ∈ w.ins x ↔ t ∈ w.ties ∧ t.goal = x := by simp [ins]
theorem preds_congr {w : Wk} {f g : Str → Nat → Int} {x : Str} {k : Nat} (h : ∀ t ∈ w.ins x, t.count ≤ (k : Int) → f t.start (k - t.count.toNat) = g t.start (k - t.count.toNat)) : w.preds f x k = w.preds g x k := by
  unfold preds
  refine List.map_congr_left fun t ht => ?_
  obtain ⟨h1, h2⟩ := List.mem_filter.mp ht
  rw [h t h1 (by simpa using h2)]
def mu (ord : List Str) (x : Str) (k : Nat) : Nat := k * (ord.length + 1) + ixOf ord x
theorem mu_lt {w : Wk} (h : w.Ok) {ord : List Str} (ho : ord.Perm w.names) (top : ∀ t ∈ w.ties, t.count = 0 → ixOf ord t.start < ixOf ord t.goal) {x : Str} {k : Nat} {t : Ti} (ht : t ∈ w.ins x) (hk : t.count ≤ k) : mu ord t.start (k - t.count.toNat) < mu ord x k := by
  obtain ⟨h1, rfl⟩ := ins_mem.mp ht
  have h0 := h.cnt t h1
  have hs : ixOf ord t.start < ord.length := ixOf_lt (ho.mem_iff.mpr (h.tie h1).1)
  unfold mu
  by_cases hz : t.count = 0
  · have := top t h1 hz
    rw [hz]
    simp
    exact this
  · have hc : 1 ≤ t.count.toNat := by omega
    have hc2 : t.count.toNat ≤ k := by omega
    obtain ⟨m, rfl⟩ : ∃ m, k = m + t.count.toNat := ⟨k - t.count.toNat, by omega⟩
    rw [Nat.add_sub_cancel]
    have : m * (ord.length + 1) + (ord.length + 1) ≤ (m + t.count.toNat) * (ord.length + 1) := by
      rw [← Nat.succ_mul]
      exact Nat.mul_le_mul_right _ (by omega)
    omega
theorem Endless.ind {w : Wk} (he : w.Endless) (h : w.Ok) {P : Str → Nat → Prop} (step : ∀ x ∈ w.names, ∀ k : Nat, (∀ t ∈ w.ins x, t.count ≤ (k : Int) → P t.start (k - t.count.toNat)) → P x k) : ∀ x ∈ w.names, ∀ k : Nat, P x k := by
  obtain ⟨ord, ho, top⟩ := he
  have : ∀ (n : Nat) (x : Str) (k : Nat), mu ord x k < n → x ∈ w.names → P x k := by
    intro n
    induction n with
    | zero => intro x k h; omega
    | succ n ih =>
      intro x k hm hx
      refine step x hx k fun t ht hk => ih _ _ ?_ (h.tie (ins_mem.mp ht).1).1
      have := mu_lt h ho top ht hk
      omega
  exact fun x hx k => this _ x k (Nat.lt_succ_self _) hx
theorem Rec.uniq {w : Wk} (h : w.Ok) (he : w.Endless) {comb : Str → Nat → List Int → Int} {f g : Str → Nat → Int} (hf : w.Rec comb f) (hg : w.Rec comb g) : ∀ x ∈ w.names, ∀ k : Nat, f x k = g x k := by
  refine he.ind h fun x hx k ih => ?_
  rw [hf x hx k, hg x hx k, preds_congr ih]
def fuel (w : Wk) (comb : Str → Nat → List Int → Int) : Nat → Str → Nat → Int
  | 0 => fun _ _ => 0
  | n + 1 => fun x k => comb x k (w.preds (fuel w comb n) x k)
theorem Endless.rec {w : Wk} (he : w.Endless) (h : w.Ok) (comb : Str → Nat → List Int → Int) : ∃ f, w.Rec comb f := by
  obtain ⟨ord, ho, top⟩ := he
  have st : ∀ (N : Nat) (x : Str) (k : Nat), mu ord x k < N → x ∈ w.names → ∀ n m, mu ord x k < n → mu ord x k < m → fuel w comb n x k = fuel w comb m x k := by
    intro N
    induction N with
    | zero => intro x k h; omega
    | succ N ih =>
      intro x k hm hx n m hn hm'
      obtain ⟨n, rfl⟩ : ∃ n', n = n' + 1 := ⟨n - 1, by omega⟩
      obtain ⟨m, rfl⟩ : ∃ n', m = n' + 1 := ⟨m - 1, by omega⟩
      show comb x k _ = comb x k _
      rw [preds_congr fun t ht hk => ?_]
      have := mu_lt h ho top ht hk
      exact ih _ _ (by omega) (h.tie (ins_mem.mp ht).1).1 n m (by omega) (by omega)
  refine ⟨fun x k => fuel w comb (mu ord x k + 1) x k, fun x hx k => ?_⟩
  show comb x k _ = comb x k _
  rw [preds_congr fun t ht hk => ?_]
  have := mu_lt h ho top ht hk
  exact st _ _ _ (Nat.lt_succ_self _) (h.tie (ins_mem.mp ht).1).1 _ _ (by omega) (by omega)
open Classical in
noncomputable def sol (w : Wk) (comb : Str → Nat → List Int → Int) : Str → Nat → Int := if h : ∃ f, w.Rec comb f then Classical.choose h else fun _ _ => 0
theorem sol_rec {w : Wk} (h : w.Ok) (he : w.Endless) (comb : Str → Nat → List Int → Int) : w.Rec comb (w.sol comb) := by
  have hr := he.rec h comb
  unfold sol
  rw [dif_pos hr]
  exact Classical.choose_spec hr
/-- the starts as soon as can be, late by so much -/
def combL (w : Wk) (late : Nat → Nat → Int) (x : Str) (k : Nat) (l : List Int) : Int := maxL (0 :: l) + late (ixOf w.names x) k
/-- the starts as soon as can be, m no sooner than it is released -/
def combM (m : Str) (r : Nat → Int) (x : Str) (k : Nat) (l : List Int) : Int := maxL (0 :: (l ++ if x = m then [r k] else []))
end Wk
theorem maxL_snoc : ∀ {l : List Int} {v : Int}, l ≠ [] → maxL (l ++ [v]) = max (maxL l) v
  | [], _, h => absurd rfl h
  | [x], v, _ => rfl
  | x :: y :: r, v, _ => by
    have ih := maxL_snoc (l := y :: r) (v := v) (by simp)
    show max x (maxL ((y :: r) ++ [v])) = max (max x (maxL (y :: r))) v
    rw [ih]
    omega
/-- a table by names and rounds -/
def rowT (many : Nat) (f : Nat → Int) : T := .vl ((List.range many).map fun k => .st (.int (f k)))
def rowD (many : Nat) (f : Nat → Int) : D := .lst ((List.range many).map fun k : Nat => .int (f k))
def tabT (xs : List Str) (many : Nat) (f : Str → Nat → Int) : T := .vl (xs.map fun x => rowT many (f x))
def tabD (xs : List Str) (many : Nat) (f : Str → Nat → Int) : D := .lst (xs.map fun x => rowD many (f x))
def upd2 (f : Str → Nat → Int) (x : Str) (k : Nat) (v : Int) : Str → Nat → Int := fun x' k' => if x' = x ∧ k' = k then v else f x' k'
theorem upd2_same {f : Str → Nat → Int} {x : Str} {k : Nat} {v : Int} : upd2 f x k v x k = v := by simp [upd2]
theorem upd2_ne {f : Str → Nat → Int} {x x' : Str} {k k' : Nat} {v : Int} (h : x' ≠ x ∨ k' ≠ k) : upd2 f x k v x' k' = f x' k' := by
  unfold upd2
  rw [if_neg]
  rintro ⟨a, b⟩
  rcases h with h | h
  · exact h a
  · exact h b
theorem row_set {many k : Nat} {f : Nat → Int} {v : Int} (h : k < many) : ((List.range many).map fun k => T.st (.int (f k))).set k (.st (.int v)) = (List.range many).map fun k' => T.st (.int (updN f k v k')) := by
  rw [set_rng h]
  refine List.map_congr_left fun j _ => ?_
  unfold updN
  split <;> rfl
theorem tab_set {xs : List Str} (nd : xs.Nodup) {x : Str} (hx : x ∈ xs) {many k : Nat} {f : Str → Nat → Int} {v : Int} : (xs.map fun x => rowT many (f x)).set (ixOf xs x) (rowT many (updN (f x) k v)) = xs.map fun y => rowT many (upd2 f x k v y) := by
  rw [set_tab nd hx]
  refine List.map_congr_left fun y _ => ?_
  unfold upd1
  by_cases e : y = x
  · subst e
    rw [if_pos rfl]
    congr 1
    funext j
    unfold updN upd2
    by_cases e : j = k <;> simp [e]
  · rw [if_neg e]
    show rowT many (f y) = rowT many (upd2 f x k v y)
    congr 1
    funext j
    unfold upd2
    rw [if_neg (fun h => e h.1)]
theorem rowT_erase {many : Nat} {f : Nat → Int} : (rowT many f).erase = rowD many f := erase_vl (f := fun k : Nat => D.int (f k))
theorem tabT_erase {xs : List Str} {many : Nat} {f : Str → Nat → Int} : (tabT xs many f).erase = tabD xs many f := by
  unfold tabT tabD
  simp only [T.erase, erases_map, List.map_map]
  congr 1
  refine List.map_congr_left fun x _ => ?_
  exact rowT_erase
theorem tabD_congr {xs : List Str} {many : Nat} {f g : Str → Nat → Int} (h : ∀ x ∈ xs, ∀ k, k < many → f x k = g x k) : tabD xs many f = tabD xs many g := by
  unfold tabD rowD
  congr 1
  refine List.map_congr_left fun x hx => ?_
  congr 1
  refine List.map_congr_left fun k hk => ?_
  rw [h x hx k (by simpa using hk)]
theorem before {row pre post : List Str} {x y : Str} (nd : row.Nodup) (e : row = pre ++ x :: post) (h : ixOf row y < ixOf row x) : y ∈ pre := by
  have hx : x ∉ pre := fun m => by
    rw [e] at nd
    exact (List.nodup_append.mp nd).2.2 x m x (by simp) rfl
  have h1 : ixOf row x = pre.length := by
    have hl : pre.length < row.length := by rw [e]; simp
    have := ixOf_getElem nd hl
    have e2 : row[pre.length] = x := by simp [e]
    rw [e2] at this
    exact this
  rw [h1] at h
  have hl : ixOf row y < row.length := Nat.lt_of_lt_of_le h (by rw [e]; simp)
  have hy : row[ixOf row y] = y := by
    have := List.findIdx_getElem (w := hl)
    exact of_decide_eq_true this
  have : pre[ixOf row y]'h = y := by
    have e2 : row[ixOf row y]? = pre[ixOf row y]? := by
      have : ∀ i : Nat, i < pre.length → row[i]? = pre[i]? := fun i hi => by rw [e]; exact List.getElem?_append_left hi
      exact this _ h
    rw [List.getElem?_eq_getElem hl, List.getElem?_eq_getElem h, hy] at e2
    exact (Option.some.inj e2).symm
  rw [← this]
  exact List.getElem_mem h
theorem fGet_row {many j : Nat} {i : Int} {f : Nat → Int} {Q : T → Prop} (hi : i = j) (h : j < many) (q : Q (.st (.int (f j)))) : fGet (rowT many f) (.st (.int i)) Q := by
  subst hi
  unfold rowT
  rw [fGet_vl]
  exact ⟨_, atI_rng h, q⟩
theorem late_add {a : Int} {o : Option Int} {Q : T → Prop} : fAdd (.st (.int a)) (((o.map D.int).map T.st).getD (.st (.int 0))) Q ↔ Q (.st (.int (a + o.getD 0))) := by
  cases o <;> exact Iff.rfl
theorem put_row {many k : Nat} {f : Nat → Int} {v : Int} (h : k < many) : (rowT many f).put? (.int k) (.int v) = some (rowT many (updN f k v)) := by
  unfold rowT
  rw [putL_vl, List.length_map, List.length_range, ixN_nat h, Option.map_some, row_set h]
theorem sz_row {many : Nat} {f : Nat → Int} : (rowT many f).sz = many := by
  unfold rowT
  rw [sz_vl, List.length_map, List.length_range]
def sp_rounds : PSp := fun ds R => ∃ (w : Wk) (many : Nat) (late : List (List Key × Int)), ds = [enc w, .int many, .dt (late.map fun p => (p.1, .int p.2))] ∧ w.Ok ∧ w.Endless ∧ many ≤ 10000 ∧ R (tabD w.names many (w.sol (w.combL fun p k => (look late [.inl (p : Int), .inl (k : Int)]).getD 0)))
theorem l_rounds : ∀ ds R, sp_rounds ds R → ds.length = 3 := by rintro ds R ⟨w, row, l, rfl, _⟩; rfl
def w_rounds : SW := (sSeq (sAsg 3 (wCall sp_names_of (wCons (wV 0) wNil)))
    (sSeq (sAsg 4 (wCall sp_inner_order (wCons (wV 0) (wCons (wCall sp_round_order (wCons (wV 0) wNil)) wNil))))
    (sSeq (sNew 5 (wLc (wItS (wV 3)) (.nm 7) wYes (wLc (wRg1 (wCons (wV 1) wNil)) (.nm 6) wYes (wNw (wC (.int 0))) [6]) [7]))
    (sSeq (sFor (wRg1 (wCons (wV 1) wNil)) (.nm 6) (sFor (wItS (wV 4)) (.tp ((.nm 8) :: ((.nm 9) :: []))) (sSeq (sAsg 10 (wC (.int 0)))
    (sSeq (sFor (wItS (wV 9)) (.tp ((.nm 11) :: ((.nm 12) :: ((.nm 13) :: [])))) (sIf (wAnd (wTest (wOp fLe (wV 12) (wV 6))) (wTest (wOp fGt (wOp fAdd (wOp fGet (wOp fGet (wV 5) (wV 11)) (wOp fSub (wV 6) (wV 12))) (wV 13)) (wV 10)))) (sAsg 10 (wOp fAdd (wOp fGet (wOp fGet (wV 5) (wV 11)) (wOp fSub (wV 6) (wV 12))) (wV 13))) sNext))
    (sSet2 5 (wV 8) (wV 6) (wOp fAdd (wV 10) (wGet2 (wV 2) (wTup (wCons (wV 8) (wCons (wV 6) wNil))) (wC (.int 0)))))))))
    (sFrz 5 (sRet (wV 5)))))))

theorem look_ints {late : List (List Key × Int)} {k : List Key} : look (late.map fun p => (p.1, D.int p.2)) k = (look late k).map D.int := by
  unfold look
  rw [List.find?_map]
  cases h : late.find? ((fun p : List Key × D => decide (p.1 = k)) ∘ fun p : List Key × Int => (p.1, D.int p.2)) with
  | none =>
    have : late.find? (fun p => decide (p.1 = k)) = none := h
    simp [this]
  | some p =>
    have : late.find? (fun p => decide (p.1 = k)) = some p := h
    simp [this]
theorem p_rounds : ∀ ds R, sp_rounds ds R → w_rounds { nx := fun _ => R .non, rt := R } (startE 14 ds) := by
  rintro ds R ⟨w, many, late, rfl, h, he, hm, q⟩
  have hS := Wk.sol_rec h he (w.combL fun p k => (look late [.inl (p : Int), .inl (k : Int)]).getD 0)
  generalize (w.sol (w.combL fun p k => (look late [.inl (p : Int), .inl (k : Int)]).getD 0)) = S at hS q
  have nl := h.nlen
  have tl := h.tie_len
  unfold w_rounds
  walk_at "pw"
  refine ⟨w, rfl, h, ?_⟩
  walk_at "pw"
  refine ⟨w, rfl, h, he, fun row hp topo => ?_⟩
  walk_at "pw"
  refine ⟨w, row, rfl, h, by have := hp.length_eq; omega, fun x hx => hp.mem_iff.mp hx, ?_⟩
  walk_at "pw"
  refine ⟨by omega, compW_map D.str (fun _ => rowT many fun _ => 0) (fun x _ R hR => ?_) ?_⟩
  · refine ⟨by omega, by omega, by omega, compW_map (fun i : Nat => D.int i) (fun _ => .st (.int 0)) (fun i _ R hR => ?_) ?_⟩
    · exact hR
    · exact hR
  refine ⟨by omega, by omega, ?_⟩
  refine forW_rng (fun k env => ∃ (tb : Str → Nat → Int) (j6 j8 j9 j10 j11 j12 j13 : Option T), env = [some (.st (enc w)), some (.st (.int many)), some (.st (.dt (late.map fun p => (p.1, .int p.2)))), some (.st (.lst (w.names.map D.str))), some (.st (.lst (row.map (encS w)))), some (tabT w.names many tb), j6, none, j8, j9, j10, j11, j12, j13] ∧ ∀ x ∈ w.names, ∀ j, j < k → tb x j = S x j) ⟨fun _ _ => 0, _, _, _, _, _, _, _, rfl, fun x _ j hj => absurd hj (by omega)⟩ ?_ ?_
  · rintro k env N hk ⟨tb, j6, j8, j9, j10, j11, j12, j13, rfl, htb⟩ hN
    walk_at "pw"
    refine forW_inv (encS w) (fun pre env => ∃ (tb : Str → Nat → Int) (j8 j9 j10 j11 j12 j13 : Option T), env = [some (.st (enc w)), some (.st (.int many)), some (.st (.dt (late.map fun p => (p.1, .int p.2)))), some (.st (.lst (w.names.map D.str))), some (.st (.lst (row.map (encS w)))), some (tabT w.names many tb), some (.st (.int k)), none, j8, j9, j10, j11, j12, j13] ∧ ∀ x ∈ w.names, ∀ j, (j < k ∨ j = k ∧ x ∈ pre) → tb x j = S x j) ⟨tb, _, _, _, _, _, _, rfl, fun x hx j hj => htb x hx j (by rcases hj with h | ⟨_, h⟩; exact h; cases h)⟩ ?_ ?_
    · rintro pre x post env N2 e ⟨tb, j8, j9, j10, j11, j12, j13, rfl, htb⟩ hN2
      have hx : x ∈ w.names := hp.mem_iff.mp (by rw [e]; simp)
      have rnd : row.Nodup := hp.nodup_iff.mpr h.nd
      rw [show encS w x = .tup [.int (ixOf w.names x), .lst ((w.ins x).map fun t => .tup [.int (ixOf w.names t.start), .int t.count, .int (w.time t.start)])] from rfl]
      walk_at "pw"
      have vals : ∀ t ∈ w.ins x, t.count ≤ (k : Int) → tb t.start (k - t.count.toNat) = S t.start (k - t.count.toNat) := by
        intro t ht hc
        obtain ⟨h1, h2⟩ := Wk.ins_mem.mp ht
        have h0 := h.cnt t h1
        refine htb _ (h.tie h1).1 _ ?_
        by_cases hz : t.count = 0
        · right
          refine ⟨by omega, before rnd e ?_⟩
          have := topo t h1 hz
          rw [h2] at this
          exact this
        · left; omega
      refine forW_inv (fun t : Ti => D.tup [.int (ixOf w.names t.start), .int t.count, .int (w.time t.start)]) (fun pre2 env => ∃ (j11 j12 j13 : Option T), env = [some (.st (enc w)), some (.st (.int many)), some (.st (.dt (late.map fun p => (p.1, .int p.2)))), some (.st (.lst (w.names.map D.str))), some (.st (.lst (row.map (encS w)))), some (tabT w.names many tb), some (.st (.int k)), none, some (.st (.int (ixOf w.names x))), some (.st (.lst ((w.ins x).map fun t => .tup [.int (ixOf w.names t.start), .int t.count, .int (w.time t.start)]))), some (.st (.int (maxL (0 :: ((pre2.filter fun t : Ti => decide (t.count ≤ (k : Int))).map fun t => S t.start (k - t.count.toNat) + w.time t.start))))), j11, j12, j13]) ⟨_, _, _, rfl⟩ ?_ ?_
      · rintro pre2 t post2 env N3 e2 ⟨j11, j12, j13, rfl⟩ hN3
        have ht : t ∈ w.ins x := by rw [e2]; simp
        unfold tabT at hN3 ⊢
        walk_at "pw"
        have hs : t.start ∈ w.names := (h.tie (Wk.ins_mem.mp ht).1).1
        have h0 := h.cnt t (Wk.ins_mem.mp ht).1
        by_cases hc : t.count ≤ (k : Int)
        · have e3 : ((pre2 ++ [t]).filter fun t : Ti => decide (t.count ≤ (k : Int))) = (pre2.filter fun t : Ti => decide (t.count ≤ (k : Int))) ++ [t] := by
            rw [List.filter_append, List.filter_cons_of_pos (by simpa using hc)]; rfl
          rw [e3, List.map_append, ← List.cons_append, List.map_singleton, maxL_snoc (by simp)] at hN3
          rw [if_pos hc, atI_tab hs]
          have gr := fun {Q : T → Prop} (q : Q (.st (.int (S t.start (k - t.count.toNat))))) => fGet_row (i := (k : Int) - t.count) (j := k - t.count.toNat) (many := many) (f := tb t.start) (Q := Q) (by omega) (by omega) (by rw [vals t ht hc]; exact q)
          refine ⟨_, rfl, gr ?_⟩
          walk_at "pw"
          split
          · rename_i hgt
            refine gr ?_
            walk_at "pw"
            rw [show max (maxL (0 :: ((pre2.filter fun t : Ti => decide (t.count ≤ (k : Int))).map fun t => S t.start (k - t.count.toNat) + w.time t.start))) (S t.start (k - t.count.toNat) + w.time t.start) = S t.start (k - t.count.toNat) + w.time t.start by omega] at hN3
            exact hN3 _ ⟨_, _, _, rfl⟩
          · rename_i hgt
            rw [show max (maxL (0 :: ((pre2.filter fun t : Ti => decide (t.count ≤ (k : Int))).map fun t => S t.start (k - t.count.toNat) + w.time t.start))) (S t.start (k - t.count.toNat) + w.time t.start) = maxL (0 :: ((pre2.filter fun t : Ti => decide (t.count ≤ (k : Int))).map fun t => S t.start (k - t.count.toNat) + w.time t.start)) by omega] at hN3
            exact hN3 _ ⟨_, _, _, rfl⟩
        · have e3 : ((pre2 ++ [t]).filter fun t : Ti => decide (t.count ≤ (k : Int))) = (pre2.filter fun t : Ti => decide (t.count ≤ (k : Int))) := by
            rw [List.filter_append, List.filter_cons_of_neg (by simpa using hc)]; simp
          rw [e3] at hN3
          rw [if_neg hc]
          exact hN3 _ ⟨_, _, _, rfl⟩
      · rintro env ⟨j11, j12, j13, rfl⟩
        have hm : maxL (0 :: ((w.ins x).filter fun t : Ti => decide (t.count ≤ (k : Int))).map fun t => S t.start (k - t.count.toNat) + w.time t.start) + (look late [.inl (ixOf w.names x : Int), .inl (k : Int)]).getD 0 = S x k := (hS x hx k).symm
        unfold tabT at hN2 ⊢
        walk_at "pw"
        rw [look_ints, late_add, hm]
        refine ⟨rfl, by omega, _, ixN_nat (ixOf_lt hx), _, by rw [List.getElem?_map, ixOf_get hx]; rfl, _, rfl, by rw [sz_row]; omega, _, put_row hk, ?_⟩
        rw [tab_set h.nd hx]
        refine hN2 _ ⟨upd2 tb x k (S x k), _, _, _, _, _, _, rfl, fun y hy j hj => ?_⟩
        by_cases hxy : y = x ∧ j = k
        · obtain ⟨rfl, rfl⟩ := hxy
          exact upd2_same
        · rw [upd2_ne (by by_cases a : y = x; exact .inr (fun b => hxy ⟨a, b⟩); exact .inl a)]
          refine htb y hy j ?_
          rcases hj with hj | ⟨hj, hj2⟩
          · exact .inl hj
          · rcases List.mem_append.mp hj2 with h3 | h3
            · exact .inr ⟨hj, h3⟩
            · exact absurd ⟨List.mem_singleton.mp h3, hj⟩ hxy
    · rintro env ⟨tb, j8, j9, j10, j11, j12, j13, rfl, htb⟩
      refine hN _ ⟨tb, _, _, _, _, _, _, _, rfl, fun x hx j hj => htb x hx j ?_⟩
      by_cases hj2 : j < k
      · exact .inl hj2
      · exact .inr ⟨by omega, hp.mem_iff.mpr hx⟩
  · rintro env ⟨tb, j6, j8, j9, j10, j11, j12, j13, rfl, htb⟩
    walk_at "pw"
    rw [tabT_erase, tabD_congr htb]
    exact q
end Pw
namespace Pw
open PySem PySem.Spec PyProof.Rows L2
local macro_rules | `(tactic| walk_at "pw") => `(tactic| simp only [wV, wC, wOp, wUn, wTest, wAnd, wOr, wNot, wTru, wIf, wNil, wCons, wTup, wLst, wFz, wNw, wDk, wDt, wCB, wM, wM1, wCall, wGet2, wSl, wSo, wNo, wRev, wItS, wRg1, wRg2, wRg3, wEnum, wLc, wDc, wDisp, wPairs, wYes, sNext, sSeq, sAsg, sNew, sAsgT, sFrz, sDrop, sRet, sRetV, sRetN, sIf, sFor, sAugI, sApp, sSet, sSet2, sApp2, sDAug, sAppPop, sSdApp, sExt, sNever, setT_nm, setT_tp, setTs_nil, setTs_cons, T.it?, T.il?, plainL, startE, wipeE, List.map_cons, List.map_nil, List.length_cons, List.length_nil, List.replicate_succ, List.replicate_zero, List.cons_append, List.nil_append, List.append_nil, List.getElem?_cons_zero, List.getElem?_cons_succ, List.set_cons_zero, List.set_cons_succ, Option.some.injEq, T.st.injEq, T.vl.injEq, T.vk.injEq, D.tup.injEq, D.lst.injEq, D.int.injEq, D.str.injEq, D.bl.injEq, List.cons.injEq, exists_eq', exists_eq, Int.toNat_natCast, rng_eq, List.length_map, List.length_range, exists_eq_left', exists_eq_left, exists_and_left, and_true, true_and, Option.bind_some, Option.map_some, fGet_tup, fGet_lst, fGet_vl, fGet_str, fGet_dk, fGet_vk, fII_st, fAdd_int, fAdd_str, fAdd_lst, fAdd_lv, fEqA_int, fEqA_str, fNotN_non, fNotN_int, fIsN_non, fIsN_int, fLen_lst, fLen_tup, fLen_vl, fLen_str, dl_strN, dl_lst, reduceCtorEq, false_and, and_false, exists_false, false_or, or_false, fInt_int, fInt_bl, fTuple_lst, fTuple_vl, fTuple_tup, fList_tup, fList_lst, fMax_2, fMax_3, fMin_2, atI_0, atI_1, atI_2, atI_3, atI_4, erase_st, decide_eq_true_eq, Bool.false_eq_true, if_true, if_false, take_iff, isD_vk, isD_dk, gV, gD, pV, posV, sz_vk, sz_vl, kK_str, ch_vk, ch_vl, setCh_vk, setCh_vl, atI_tab, Option.getD_some, Option.getD_none, posL, putL_vl, gDt, ite_true, ite_false])

theorem ixOf_inj {xs : List Str} {x y : Str} (hx : x ∈ xs) (hy : y ∈ xs) (e : ixOf xs x = ixOf xs y) : x = y := by
  have h1 := ixOf_get hx
  have h2 := ixOf_get hy
  rw [e, h2] at h1
  exact (Option.some.inj h1).symm
def rowU (many : Nat) (f : Nat → Int) : D := .tup ((List.range many).map fun k : Nat => .int (f k))
def tabU (xs : List Str) (many : Nat) (f : Str → Nat → Int) : D := .tup (xs.map fun x => rowU many (f x))
theorem tabU_congr {xs : List Str} {many : Nat} {f g : Str → Nat → Int} (h : ∀ x ∈ xs, ∀ k, k < many → f x k = g x k) : tabU xs many f = tabU xs many g := by
  unfold tabU rowU
  congr 1
  refine List.map_congr_left fun x hx => ?_
  congr 1
  refine List.map_congr_left fun k hk => ?_
  rw [h x hx k (by simpa using hk)]
/-- the first starts -/
noncomputable def Wk.st (w : Wk) : Str → Nat → Int := w.sol (w.combL fun p k => (look ([] : List (List Key × Int)) [.inl (p : Int), .inl (k : Int)]).getD 0)
theorem Wk.st_rec {w : Wk} (h : w.Ok) (he : w.Endless) {x : Str} (hx : x ∈ w.names) (k : Nat) : w.st x k = maxL (0 :: w.preds w.st x k) := by
  have := Wk.sol_rec h he (w.combL fun p k => (look ([] : List (List Key × Int)) [.inl (p : Int), .inl (k : Int)]).getD 0) x hx k
  unfold Wk.st
  rw [this]
  unfold Wk.combL
  simp [look]
def sp_released : PSp := fun ds R => ∃ (w : Wk) (m : Str) (many : Nat) (r : Nat → Int), ds = [enc w, .str m, rowU many r] ∧ w.Ok ∧ w.Endless ∧ m ∈ w.names ∧ many ≤ 10000 ∧ R (tabU w.names many (w.sol (Wk.combM m r)))
theorem l_released : ∀ ds R, sp_released ds R → ds.length = 3 := by rintro ds R ⟨w, row, l, r, rfl, _⟩; rfl
def sp_law_rounds : PSp := sp_rounds
theorem l_law_rounds : ∀ ds R, sp_law_rounds ds R → ds.length = 3 := l_rounds
def sp_meets : PSp := fun ds R => ∃ (w : Wk) (m : Str) (many : Nat) (dues : Nat → Int), ds = [enc w, .str m, rowU many dues] ∧ w.Ok ∧ w.Endless ∧ m ∈ w.names ∧ many ≤ 10000 ∧ (∀ k, k < many → w.st m k ≤ dues k) ∧ R (.tup [.str "met", tabU w.names many w.st])
theorem l_meets : ∀ ds R, sp_meets ds R → ds.length = 3 := by rintro ds R ⟨w, row, l, r, rfl, _⟩; rfl
def released2 : SW := (sFrz 12 (sSet2 6 (wV 10) (wV 8) (wCB fMax (wCons (wOp fAdd (wFz (wLst (wCons (wC (.int 0)) wNil))) (wV 12)) wNil))))
def w_released : SW := (sSeq (sDrop (wCall sp_check_endless (wCons (wV 0) wNil)))
    (sSeq (sAsg 3 (wCall sp_names_of (wCons (wV 0) wNil)))
    (sSeq (sAsg 4 (wCB fLen (wCons (wV 2) wNil)))
    (sSeq (sAsg 5 (wM fIndex (wV 3) (wCons (wV 1) wNil)))
    (sSeq (sNew 6 (wLc (wItS (wV 3)) (.nm 9) wYes (wLc (wRg1 (wCons (wV 4) wNil)) (.nm 8) wYes (wNw (wC (.int 0))) [8]) [9]))
    (sSeq (sAsg 7 (wCall sp_inner_order (wCons (wV 0) (wCons (wCall sp_round_order (wCons (wV 0) wNil)) wNil))))
    (sSeq (sFor (wRg1 (wCons (wV 4) wNil)) (.nm 8) (sFor (wItS (wV 7)) (.tp ((.nm 10) :: ((.nm 11) :: []))) (sSeq (sNew 12 (wLc (wItS (wV 11)) (.tp ((.nm 14) :: ((.nm 15) :: ((.nm 16) :: [])))) (wTest (wOp fLe (wV 15) (wV 8))) (wNw (wOp fAdd (wOp fGet (wOp fGet (wV 6) (wV 14)) (wOp fSub (wV 8) (wV 15))) (wV 16))) [14, 15, 16]))
    (sSeq (sIf (wTest (wOp fEqA (wV 10) (wV 5))) (sApp 12 (wOp fGet (wV 2) (wV 8))) sNext)
    released2))))
    (sFrz 6 (sRet (wCB fTuple (wCons (wFz (wLc (wItS (wV 6)) (.nm 13) wYes (wNw (wCB fTuple (wCons (wV 13) wNil))) [13])) wNil)))))))))))
def w_meets : SW := (sSeq (sDrop (wCall sp_check_endless (wCons (wV 0) wNil)))
    (sSeq (sAsg 3 (wCall sp_names_of (wCons (wV 0) wNil)))
    (sSeq (sAsg 4 (wCall sp_rounds (wCons (wV 0) (wCons (wCB fLen (wCons (wV 2) wNil)) (wCons (wFz wDt) wNil)))))
    (sSeq (sAsg 5 (wOp fGet (wV 4) (wM fIndex (wV 3) (wCons (wV 1) wNil))))
    (sSeq (sFor (wRg1 (wCons (wCB fLen (wCons (wV 2) wNil)) wNil)) (.nm 6) (sIf (wTest (wOp fGt (wOp fGet (wV 5) (wV 6)) (wOp fGet (wV 2) (wV 6)))) sNever sNext))
    (sRet (wTup (wCons (wC (.str "met")) (wCons (wCB fTuple (wCons (wFz (wLc (wItS (wV 4)) (.nm 9) wYes (wNw (wCB fTuple (wCons (wV 9) wNil))) [9])) wNil)) wNil)))))))))

theorem fGet_rowD {many j : Nat} {i : Int} {f : Nat → Int} {Q : T → Prop} (hi : i = j) (h : j < many) (q : Q (.st (.int (f j)))) : fGet (.st (rowD many f)) (.st (.int i)) Q := by
  subst hi
  unfold rowD
  rw [fGet_lst]
  exact ⟨_, atI_rng h, q⟩
theorem fGet_rowU {many j : Nat} {i : Int} {f : Nat → Int} {Q : T → Prop} (hi : i = j) (h : j < many) (q : Q (.st (.int (f j)))) : fGet (.st (rowU many f)) (.st (.int i)) Q := by
  subst hi
  unfold rowU
  rw [fGet_tup]
  exact ⟨_, atI_rng h, q⟩
theorem fGet_tabU {xs : List Str} {many : Nat} {f : Str → Nat → Int} {x : Str} {Q : T → Prop} (h : x ∈ xs) (q : Q (.st (rowU many (f x)))) : fGet (.st (tabU xs many f)) (.st (.int (ixOf xs x))) Q := by
  unfold tabU
  rw [fGet_tup]
  exact ⟨_, atI_tab h, q⟩
theorem fGet_tabD {xs : List Str} {many : Nat} {f : Str → Nat → Int} {x : Str} {Q : T → Prop} (h : x ∈ xs) (q : Q (.st (rowD many (f x)))) : fGet (.st (tabD xs many f)) (.st (.int (ixOf xs x))) Q := by
  unfold tabD
  rw [fGet_lst]
  exact ⟨_, atI_tab h, q⟩
theorem p_meets : ∀ ds R, sp_meets ds R → w_meets { nx := fun _ => R .non, rt := R } (startE 10 ds) := by
  rintro ds R ⟨w, m, many, dues, rfl, h, he, hm, hmany, hd, q⟩
  have nl := h.nlen
  unfold w_meets
  walk_at "pw"
  refine ⟨w, rfl, h, he, ?_⟩
  refine ⟨w, rfl, h, ?_⟩
  unfold rowU
  walk_at "pw"
  refine ⟨w, many, [], by simp [T.erase, eraseM], h, he, hmany, ?_⟩
  rw [show w.sol (w.combL fun p k => (look ([] : List (List Key × Int)) [.inl (p : Int), .inl (k : Int)]).getD 0) = w.st from rfl]
  refine ⟨⟨_, rfl⟩, fIndex_strs hm (fGet_tabD hm ?_)⟩
  refine ⟨_, rfl, by omega, by omega, ?_⟩
  refine forW_rng (fun k env => ∃ j6, env = [some (.st (enc w)), some (.st (.str m)), some (.st (rowU many dues)), some (.st (.lst (w.names.map D.str))), some (.st (tabD w.names many w.st)), some (.st (rowD many (w.st m))), j6, none, none, none]) ⟨_, rfl⟩ ?_ ?_
  · rintro k env N hk ⟨j6, rfl⟩ hN
    walk_at "pw"
    refine fGet_rowD rfl hk (fGet_rowU rfl hk ?_)
    walk_at "pw"
    have := hd k hk
    rw [if_neg (by omega)]
    exact hN _ ⟨_, rfl⟩
  · rintro env ⟨j6, rfl⟩
    unfold tabD
    walk_at "pw"
    refine ⟨by omega, compW_map (fun x => rowD many (w.st x)) (fun x => .st (rowU many (w.st x))) (fun x _ R hR => ?_) ?_⟩
    · unfold rowD
      walk_at "pw"
      exact hR
    · have e : (T.vl (w.names.map fun x => T.st (rowU many (w.st x)))).erase = .lst (w.names.map fun x => rowU many (w.st x)) := erase_vl
      rw [e]
      walk_at "pw"
      exact ⟨by omega, q⟩
theorem p_released : ∀ ds R, sp_released ds R → w_released { nx := fun _ => R .non, rt := R } (startE 17 ds) := by
  rintro ds R ⟨w, m, many, rel, rfl, h, he, hm, hmany, q⟩
  have hS := Wk.sol_rec h he (Wk.combM m rel)
  generalize (w.sol (Wk.combM m rel)) = S at hS q
  have nl := h.nlen
  have tl := h.tie_len
  unfold w_released rowU
  walk_at "pw"
  refine ⟨w, rfl, h, he, ?_⟩
  refine ⟨w, rfl, h, ?_⟩
  walk_at "pw"
  refine ⟨⟨_, rfl⟩, fIndex_strs hm ?_⟩
  walk_at "pw"
  refine ⟨by omega, compW_map D.str (fun _ => rowT many fun _ => 0) (fun x _ R hR => ?_) ?_⟩
  · refine ⟨by omega, by omega, by omega, compW_map (fun i : Nat => D.int i) (fun _ => .st (.int 0)) (fun i _ R hR => ?_) ?_⟩
    · exact hR
    · exact hR
  refine ⟨w, rfl, h, he, fun row hp topo => ?_⟩
  walk_at "pw"
  refine ⟨w, row, rfl, h, by have := hp.length_eq; omega, fun x hx => hp.mem_iff.mp hx, ?_⟩
  walk_at "pw"
  refine ⟨by omega, by omega, ?_⟩
  refine forW_rng (fun k env => ∃ (tb : Str → Nat → Int) (j8 j10 j11 j12 : Option T), env = [some (.st (enc w)), some (.st (.str m)), some (.st (rowU many rel)), some (.st (.lst (w.names.map D.str))), some (.st (.int many)), some (.st (.int (ixOf w.names m))), some (tabT w.names many tb), some (.st (.lst (row.map (encS w)))), j8, none, j10, j11, j12, none, none, none, none] ∧ ∀ x ∈ w.names, ∀ j, j < k → tb x j = S x j) ⟨fun _ _ => 0, _, _, _, _, rfl, fun x _ j hj => absurd hj (by omega)⟩ ?_ ?_
  · rintro k env N hk ⟨tb, j8, j10, j11, j12, rfl, htb⟩ hN
    walk_at "pw"
    refine forW_inv (encS w) (fun pre env => ∃ (tb : Str → Nat → Int) (j10 j11 j12 : Option T), env = [some (.st (enc w)), some (.st (.str m)), some (.st (rowU many rel)), some (.st (.lst (w.names.map D.str))), some (.st (.int many)), some (.st (.int (ixOf w.names m))), some (tabT w.names many tb), some (.st (.lst (row.map (encS w)))), some (.st (.int k)), none, j10, j11, j12, none, none, none, none] ∧ ∀ x ∈ w.names, ∀ j, (j < k ∨ j = k ∧ x ∈ pre) → tb x j = S x j) ⟨tb, _, _, _, rfl, fun x hx j hj => htb x hx j (by rcases hj with h | ⟨_, h⟩; exact h; cases h)⟩ ?_ ?_
    · rintro pre x post env N2 e ⟨tb, j10, j11, j12, rfl, htb⟩ hN2
      have hx : x ∈ w.names := hp.mem_iff.mp (by rw [e]; simp)
      have rnd : row.Nodup := hp.nodup_iff.mpr h.nd
      have vals : ∀ t ∈ w.ins x, t.count ≤ (k : Int) → tb t.start (k - t.count.toNat) = S t.start (k - t.count.toNat) := by
        intro t ht hc
        obtain ⟨h1, h2⟩ := Wk.ins_mem.mp ht
        have h0 := h.cnt t h1
        refine htb _ (h.tie h1).1 _ ?_
        by_cases hz : t.count = 0
        · right
          refine ⟨by omega, before rnd e ?_⟩
          have := topo t h1 hz
          rw [h2] at this
          exact this
        · left; omega
      rw [show encS w x = .tup [.int (ixOf w.names x), .lst ((w.ins x).map fun t => .tup [.int (ixOf w.names t.start), .int t.count, .int (w.time t.start)])] from rfl]
      unfold tabT at hN2 ⊢
      walk_at "pw"
      have il : (w.ins x).length ≤ 200 := Nat.le_trans (List.length_filter_le _ _) tl
      refine ⟨by omega, compW_filt (fun t : Ti => D.tup [.int (ixOf w.names t.start), .int t.count, .int (w.time t.start)]) (fun t => decide (t.count ≤ (k : Int))) (fun t => .st (.int (S t.start (k - t.count.toNat) + w.time t.start))) (fun t ht R hR => ?_) ?_⟩
      · walk_at "pw"
        have hs : t.start ∈ w.names := (h.tie (Wk.ins_mem.mp ht).1).1
        have h0 := h.cnt t (Wk.ins_mem.mp ht).1
        by_cases hc : t.count ≤ (k : Int)
        · rw [if_pos hc, atI_tab hs]
          rw [if_pos (by simpa using hc)] at hR
          refine ⟨_, rfl, fGet_row (i := (k : Int) - t.count) (j := k - t.count.toNat) (by omega) (by omega) ?_⟩
          rw [vals t ht hc]
          exact ⟨_, rfl, hR⟩
        · rw [if_neg hc]
          rw [if_neg (by simpa using hc)] at hR
          exact hR
      have hv := hS x hx k
      unfold Wk.combM Wk.preds at hv
      have fl : ((w.ins x).filter fun t : Ti => decide (t.count ≤ (k : Int))).length ≤ 200 := Nat.le_trans (List.length_filter_le _ _) il
      have fin : ∀ (l : List Int) (t : T), l.length ≤ 300 → t.erase = .lst (l.map D.int) → maxL (0 :: l) = S x k → ∀ (E : EndsW), E.nx = N2 → ∀ j11 : Option T, released2 E [some (.st (enc w)), some (.st (.str m)), some (.st (rowU many rel)), some (.st (.lst (w.names.map D.str))), some (.st (.int many)), some (.st (.int (ixOf w.names m))), some (.vl (w.names.map fun x => rowT many (tb x))), some (.st (.lst (row.map (encS w)))), some (.st (.int k)), none, some (.st (.int (ixOf w.names x))), j11, some t, none, none, none, none] := by
        intro l t hl ht hs E hE j11
        unfold released2
        walk_at "pw"
        simp only [ht]
        have e0 : (T.vl [T.st (D.int 0)]).erase = .lst ([0].map D.int) := by simp [T.erase, erases]
        rw [e0]
        walk_at "pw"
        refine ⟨by omega, ?_, ?_⟩
        · exact Nat.le_trans (by omega : _ ≤ 1000) (by decide)
        · rw [show D.int 0 :: l.map D.int = (0 :: l).map D.int from rfl]
          refine fMax_lst (by simp) ?_
          rw [hs]
          refine ⟨_, ixN_nat (ixOf_lt hx), _, by rw [List.getElem?_map, ixOf_get hx]; rfl, _, rfl, by rw [sz_row]; omega, _, put_row hk, ?_⟩
          rw [tab_set h.nd hx, hE]
          refine hN2 _ ⟨upd2 tb x k (S x k), _, _, _, rfl, fun y hy j hj => ?_⟩
          by_cases hxy : y = x ∧ j = k
          · obtain ⟨rfl, rfl⟩ := hxy
            exact upd2_same
          · rw [upd2_ne (by by_cases a : y = x; exact .inr (fun b => hxy ⟨a, b⟩); exact .inl a)]
            refine htb y hy j ?_
            rcases hj with hj | ⟨hj, hj2⟩
            · exact .inl hj
            · rcases List.mem_append.mp hj2 with h3 | h3
              · exact .inr ⟨hj, h3⟩
              · exact absurd ⟨List.mem_singleton.mp h3, hj⟩ hxy
      by_cases hxm : x = m
      · rw [if_pos (by rw [hxm])]
        rw [if_pos hxm] at hv
        refine ⟨by rw [List.length_map]; omega, fGet_rowU rfl hk ?_⟩
        refine ⟨_, rfl, fin (((w.ins x).filter fun t : Ti => decide (t.count ≤ (k : Int))).map (fun t => S t.start (k - t.count.toNat) + w.time t.start) ++ [rel k]) _ (by simp; omega) ?_ hv.symm _ rfl _⟩
        simp [T.erase, erases_map]
      · rw [if_neg (fun e => hxm (ixOf_inj hx hm (by omega)))]
        rw [if_neg hxm, List.append_nil] at hv
        refine fin (((w.ins x).filter fun t : Ti => decide (t.count ≤ (k : Int))).map (fun t => S t.start (k - t.count.toNat) + w.time t.start)) _ (by simp; omega) ?_ hv.symm _ rfl _
        simp [T.erase, erases_map]
    · rintro env ⟨tb, j10, j11, j12, rfl, htb⟩
      refine hN _ ⟨tb, _, _, _, _, rfl, fun x hx j hj => htb x hx j ?_⟩
      by_cases hj2 : j < k
      · exact .inl hj2
      · exact .inr ⟨by omega, hp.mem_iff.mpr hx⟩
  · rintro env ⟨tb, j8, j10, j11, j12, rfl, htb⟩
    walk_at "pw"
    rw [tabT_erase, tabD_congr htb]
    unfold tabD
    walk_at "pw"
    refine ⟨by omega, compW_map (fun x => rowD many (S x)) (fun x => .st (rowU many (S x))) (fun x _ R hR => ?_) ?_⟩
    · unfold rowD
      walk_at "pw"
      exact hR
    · have e : (T.vl (w.names.map fun x => T.st (rowU many (S x)))).erase = .lst (w.names.map fun x => rowU many (S x)) := erase_vl
      rw [e]
      walk_at "pw"
      exact q
end Pw
namespace Pw
open PySem PySem.Spec PyProof.Rows L2
local macro_rules | `(tactic| walk_at "pw") => `(tactic| simp only [wV, wC, wOp, wUn, wTest, wAnd, wOr, wNot, wTru, wIf, wNil, wCons, wTup, wLst, wFz, wNw, wDk, wDt, wCB, wM, wM1, wCall, wGet2, wSl, wSo, wNo, wRev, wItS, wRg1, wRg2, wRg3, wEnum, wLc, wDc, wDisp, wPairs, wYes, sNext, sSeq, sAsg, sNew, sAsgT, sFrz, sDrop, sRet, sRetV, sRetN, sIf, sFor, sAugI, sApp, sSet, sSet2, sApp2, sDAug, sAppPop, sSdApp, sExt, sNever, setT_nm, setT_tp, setTs_nil, setTs_cons, T.it?, T.il?, plainL, startE, wipeE, List.map_cons, List.map_nil, List.length_cons, List.length_nil, List.replicate_succ, List.replicate_zero, List.cons_append, List.nil_append, List.append_nil, List.getElem?_cons_zero, List.getElem?_cons_succ, List.set_cons_zero, List.set_cons_succ, Option.some.injEq, T.st.injEq, T.vl.injEq, T.vk.injEq, D.tup.injEq, D.lst.injEq, D.int.injEq, D.str.injEq, D.bl.injEq, List.cons.injEq, exists_eq', exists_eq, Int.toNat_natCast, rng_eq, List.length_map, List.length_range, exists_eq_left', exists_eq_left, exists_and_left, and_true, true_and, Option.bind_some, Option.map_some, fGet_tup, fGet_lst, fGet_vl, fGet_str, fGet_dk, fGet_vk, fII_st, fAdd_int, fAdd_str, fAdd_lst, fAdd_lv, fEqA_int, fEqA_str, fNotN_non, fNotN_int, fIsN_non, fIsN_int, fLen_lst, fLen_tup, fLen_vl, fLen_str, dl_strN, dl_lst, reduceCtorEq, false_and, and_false, exists_false, false_or, or_false, fInt_int, fInt_bl, fTuple_lst, fTuple_vl, fTuple_tup, fList_tup, fList_lst, fMax_2, fMax_3, fMin_2, atI_0, atI_1, atI_2, atI_3, atI_4, erase_st, decide_eq_true_eq, Bool.false_eq_true, if_true, if_false, take_iff, isD_vk, isD_dk, gV, gD, pV, posV, sz_vk, sz_vl, kK_str, ch_vk, ch_vl, setCh_vk, setCh_vl, atI_tab, Option.getD_some, Option.getD_none, posL, putL_vl, gDt, ite_true, ite_false])
def lrounds2 : SW :=
    (sSeq (sFor (wRg1 (wCons (wV 1) wNil)) (.nm 9) (sFrz 7 (sFor (wItS (wV 7)) (.nm 10) (sSeq (sAsg 12 (wFz (wLc (wItS (wOp fGet (wV 6) (wV 10))) (.nm 14) (wTest (wOp fLe (wOp fGet (wV 14) (wC (.int 1))) (wV 9))) (wNw (wOp fAdd (wOp fGet (wOp fGet (wV 5) (wOp fGet (wV 14) (wC (.int 0)))) (wOp fSub (wV 9) (wOp fGet (wV 14) (wC (.int 1))))) (wOp fGet (wV 14) (wC (.int 2))))) [14])))
    (sApp2 5 (wV 10) (wOp fAdd (wCB fMax (wCons (wOp fAdd (wFz (wLst (wCons (wC (.int 0)) wNil))) (wV 12)) wNil)) (wGet2 (wV 2) (wTup (wCons (wV 10) (wCons (wV 9) wNil))) (wC (.int 0)))))))))
    (sFrz 5 (sRet (wV 5))))
def w_law_rounds : SW := (sSeq (sAsg 3 (wCall sp_law_name_list (wCons (wV 0) wNil)))
    (sSeq (sAsg 4 (wCall sp_law_times (wCons (wV 0) wNil)))
    (sSeq (sNew 5 (wLc (wItS (wV 3)) (.nm 11) wYes (wLst wNil) [11]))
    (sSeq (sAsg 6 (wFz (wLc (wItS (wV 3)) (.nm 11) wYes (wNw (wFz (wLc (wItS (wCall sp_law_ties (wCons (wV 0) wNil))) (.nm 13) (wTest (wOp fEqA (wOp fGet (wV 13) (wC (.int 2))) (wV 11))) (wNw (wTup (wCons (wM fIndex (wV 3) (wCons (wOp fGet (wV 13) (wC (.int 1))) wNil)) (wCons (wOp fGet (wV 13) (wC (.int 3))) (wCons (wOp fGet (wV 4) (wOp fGet (wV 13) (wC (.int 1)))) wNil))))) [13]))) [11])))
    (sSeq (sNew 7 (wLst wNil))
    (sSeq (sFor (wRg1 (wCons (wCB fLen (wCons (wV 3) wNil)) wNil)) (.nm 8) (sFor (wRg1 (wCons (wCB fLen (wCons (wV 3) wNil)) wNil)) (.nm 10) (sIf (wAnd (wTest (wOp (fInA true) (wV 10) (wV 7))) (wTest (wCB fAll (wCons (wFz (wLc (wItS (wOp fGet (wV 6) (wV 10))) (.nm 14) (wTest (wOp fEqA (wOp fGet (wV 14) (wC (.int 1))) (wC (.int 0)))) (wNw (wOp (fInA false) (wOp fGet (wV 14) (wC (.int 0))) (wV 7))) [14])) wNil)))) (sApp 7 (wV 10)) sNext)))
    lrounds2))))))

theorem range_names {xs : List Str} (nd : xs.Nodup) : (List.range xs.length).map (fun i : Nat => D.int i) = xs.map fun x => D.int (ixOf xs x : Int) := by
  apply List.ext_getElem (by simp)
  intro j h1 h2
  simp only [List.getElem_map, List.getElem_range]
  rw [ixOf_getElem nd]
theorem rowT_snoc {n : Nat} {f : Nat → Int} : T.vl (((List.range n).map fun k => T.st (D.int (f k))) ++ [.st (.int (f n))]) = rowT (n + 1) f := by
  unfold rowT
  rw [List.range_succ, List.map_append]; rfl
/-- the order that the law makes for itself -/
structure OI (w : Wk) (ol : List Str) : Prop where
  nd : ol.Nodup
  sub : ∀ x ∈ ol, x ∈ w.names
  top : ∀ t ∈ w.ties, t.count = 0 → t.goal ∈ ol → t.start ∈ ol ∧ ixOf ol t.start < ixOf ol t.goal
theorem mem_ix {xs ol : List Str} {x : Str} (hs : ∀ y ∈ ol, y ∈ xs) (hx : x ∈ xs) : ((ixOf xs x : Nat) : Int) ∈ ol.map (fun y => ((ixOf xs y : Nat) : Int)) ↔ x ∈ ol := by
  constructor
  · intro h
    obtain ⟨y, hy, e⟩ := List.mem_map.mp h
    rw [← ixOf_inj (hs y hy) hx (by omega)]
    exact hy
  · intro h; exact List.mem_map.mpr ⟨x, h, rfl⟩
def encW (w : Wk) (x : Str) : D := .lst ((w.ins x).map fun t => .tup [.int (ixOf w.names t.start), .int t.count, .int (w.time t.start)])
theorem lrounds2_ok {w : Wk} {many : Nat} {late : List (List Key × Int)} {R : D → Prop} {ol : List Str} {j8 j9 j10 j12 : Option T} (h : w.Ok) (he : w.Endless) (hm : many ≤ 10000)
    (q : R (tabD w.names many (w.sol (w.combL fun p k => (look late [.inl (p : Int), .inl (k : Int)]).getD 0)))) (O : OI w ol) (hall : ∀ x ∈ w.names, x ∈ ol) :
    lrounds2 { nx := fun _ => R .non, rt := R } [some (.st (enc w)), some (.st (.int many)), some (.st (.dt (late.map fun p => (p.1, .int p.2)))), some (.st (.lst (w.names.map D.str))), some (.st (encTimes w)), some (.vl (w.names.map fun _ => .vl [])), some (.st (.lst (w.names.map (encW w)))), some (.vl (ol.map fun x => .st (.int (ixOf w.names x)))), j8, j9, j10, none, j12, none, none] := by
  have hS := Wk.sol_rec h he (w.combL fun p k => (look late [.inl (p : Int), .inl (k : Int)]).getD 0)
  generalize (w.sol (w.combL fun p k => (look late [.inl (p : Int), .inl (k : Int)]).getD 0)) = S at hS q
  have nl := h.nlen
  have tl := h.tie_len
  have oll : ol.length ≤ 100 := by have := len_sub O.nd O.sub; omega
  unfold lrounds2
  walk_at "pw"
  refine ⟨by omega, by omega, ?_⟩
  refine forW_rng (fun k env => ∃ (t7 : T) (j8 j9 j10 j12 : Option T), env = [some (.st (enc w)), some (.st (.int many)), some (.st (.dt (late.map fun p => (p.1, .int p.2)))), some (.st (.lst (w.names.map D.str))), some (.st (encTimes w)), some (.vl (w.names.map fun x => rowT k (S x))), some (.st (.lst (w.names.map (encW w)))), some t7, j8, j9, j10, none, j12, none, none] ∧ t7.erase = .lst (ol.map fun x => .int (ixOf w.names x))) ⟨_, _, _, _, _, rfl, erase_vl (f := fun x => D.int (ixOf w.names x : Int))⟩ ?_ ?_
  · rintro k env N hk ⟨t7, j8, j9, j10, j12, rfl, et⟩ hN
    walk_at "pw"
    simp only [et]
    walk_at "pw"
    refine forW_inv (fun x => D.int (ixOf w.names x : Int)) (fun pre env => ∃ (n : Str → Nat) (j10 j12 : Option T), env = [some (.st (enc w)), some (.st (.int many)), some (.st (.dt (late.map fun p => (p.1, .int p.2)))), some (.st (.lst (w.names.map D.str))), some (.st (encTimes w)), some (.vl (w.names.map fun x => rowT (n x) (S x))), some (.st (.lst (w.names.map (encW w)))), some (.st (.lst (ol.map fun x => .int (ixOf w.names x)))), j8, some (.st (.int k)), j10, none, j12, none, none] ∧ ∀ x ∈ w.names, n x = if x ∈ pre then k + 1 else k) ⟨fun _ => k, _, _, rfl, fun x hx => by simp⟩ ?_ ?_
    · rintro pre x post env N2 e ⟨n, j10, j12, rfl, hn⟩ hN2
      have hx : x ∈ w.names := O.sub x (by rw [e]; simp)
      have hxp : x ∉ pre := fun m => by
        have := O.nd
        rw [e] at this
        exact (List.nodup_append.mp this).2.2 x m x (by simp) rfl
      have hnx : n x = k := by rw [hn x hx, if_neg hxp]
      walk_at "pw"
      rw [atI_tab hx]
      refine ⟨_, rfl, ?_⟩
      unfold encW
      walk_at "pw"
      have il : (w.ins x).length ≤ 200 := Nat.le_trans (List.length_filter_le _ _) tl
      refine ⟨by omega, compW_filt (fun t : Ti => D.tup [.int (ixOf w.names t.start), .int t.count, .int (w.time t.start)]) (fun t => decide (t.count ≤ (k : Int))) (fun t => .st (.int (S t.start (k - t.count.toNat) + w.time t.start))) (fun t ht R hR => ?_) ?_⟩
      · walk_at "pw"
        have hs : t.start ∈ w.names := (h.tie (Wk.ins_mem.mp ht).1).1
        have h0 := h.cnt t (Wk.ins_mem.mp ht).1
        by_cases hc : t.count ≤ (k : Int)
        · rw [if_pos hc, atI_tab hs]
          rw [if_pos (by simpa using hc)] at hR
          refine ⟨_, rfl, fGet_row (i := (k : Int) - t.count) (j := k - t.count.toNat) (by omega) ?_ ⟨_, rfl, hR⟩⟩
          rw [hn _ hs]
          by_cases hz : t.count = 0
          · have hp : t.start ∈ pre := before O.nd e (by
              have := (O.top t (Wk.ins_mem.mp ht).1 hz (hall _ (h.tie (Wk.ins_mem.mp ht).1).2)).2
              rw [(Wk.ins_mem.mp ht).2] at this
              exact this)
            rw [if_pos hp]; omega
          · split <;> omega
        · rw [if_neg hc]
          rw [if_neg (by simpa using hc)] at hR
          exact hR
      rw [erase_vl (f := fun t : Ti => D.int (S t.start (k - t.count.toNat) + w.time t.start))]
      have hv := hS x hx k
      unfold Wk.combL Wk.preds at hv
      have fl : ((w.ins x).filter fun t : Ti => decide (t.count ≤ (k : Int))).length ≤ 200 := Nat.le_trans (List.length_filter_le _ _) il
      refine ⟨_, ixN_nat (ixOf_lt hx), ?_⟩
      rw [List.getElem?_map, ixOf_get hx, Option.map_some]
      unfold rowT
      walk_at "pw"
      have e0 : (T.vl [T.st (D.int 0)]).erase = .lst ([0].map D.int) := by simp [T.erase, erases]
      rw [e0, hnx]
      walk_at "pw"
      refine ⟨by omega, by omega, Nat.le_trans (by omega : _ ≤ 1000) (by decide), ?_⟩
      rw [show D.int 0 :: ((w.ins x).filter fun t : Ti => decide (t.count ≤ (k : Int))).map (fun t => D.int (S t.start (k - t.count.toNat) + w.time t.start)) = (0 :: ((w.ins x).filter fun t : Ti => decide (t.count ≤ (k : Int))).map fun t => S t.start (k - t.count.toNat) + w.time t.start).map D.int by simp]
      refine fMax_lst (by simp) ⟨rfl, by omega, ?_⟩
      rw [look_ints, late_add, ← hv]
      refine ⟨_, rfl, ?_⟩
      rw [rowT_snoc]
      have e3 : ((w.names.map fun x => T.vl ((List.range (n x)).map fun k => T.st (D.int (S x k)))).set (ixOf w.names x) (rowT (k + 1) (S x))) = w.names.map fun y => rowT (upd1 n x (k + 1) y) (S y) := by
        have := set_tab (g := fun x => rowT (n x) (S x)) (u := rowT (k + 1) (S x)) h.nd hx
        unfold rowT at this
        unfold rowT
        rw [this]
        refine List.map_congr_left fun y _ => ?_
        unfold upd1
        by_cases q : y = x
        · subst q; simp
        · simp [q]
      rw [e3]
      refine hN2 _ ⟨upd1 n x (k + 1), _, _, rfl, fun y hy => ?_⟩
      unfold upd1
      by_cases q : y = x
      · subst q; simp
      · rw [if_neg q, hn y hy]
        simp [q]
    · rintro env ⟨n, j10, j12, rfl, hn⟩
      have e1 : (w.names.map fun x => rowT (n x) (S x)) = w.names.map fun x => rowT (k + 1) (S x) := List.map_congr_left fun x hx => by rw [hn x hx, if_pos (hall x hx)]
      rw [e1]
      exact hN _ ⟨_, _, _, _, _, rfl, by simp⟩
  · rintro env ⟨t7, j8, j9, j10, j12, rfl, et⟩
    walk_at "pw"
    rw [show T.vl (w.names.map fun x => rowT many (S x)) = tabT w.names many S from rfl, tabT_erase]
    exact q
theorem fIn_ol {neg : Bool} {xs ol : List Str} {x : Str} {Q : T → Prop} (hs : ∀ y ∈ ol, y ∈ xs) (hx : x ∈ xs) : fInA neg (.st (.int (ixOf xs x))) (.vl (ol.map fun y => .st (.int (ixOf xs y)))) Q ↔ Q (.st (.bl (if neg then !decide (x ∈ ol) else decide (x ∈ ol)))) := by
  have e : (ol.map fun y => T.st (.int (ixOf xs y))) = (ol.map fun y => ((ixOf xs y : Nat) : Int)).map fun n => T.st (.int n) := by rw [List.map_map]; rfl
  rw [e, fIn_intsV, decide_eq_decide.mpr (mem_ix hs hx)]
theorem p_law_rounds : ∀ ds R, sp_law_rounds ds R → w_law_rounds { nx := fun _ => R .non, rt := R } (startE 15 ds) := by
  rintro ds R ⟨w, many, late, rfl, h, he, hm, q⟩
  have nl := h.nlen
  have tl := h.tie_len
  have fin := fun (ol : List Str) (O : OI w ol) (hall : ∀ x ∈ w.names, x ∈ ol) (j8 j9 j10 j12 : Option T) => lrounds2_ok (j8 := j8) (j9 := j9) (j10 := j10) (j12 := j12) h he hm q O hall
  obtain ⟨ord, ho, top⟩ := he
  unfold w_law_rounds
  walk_at "pw"
  refine ⟨w, rfl, h, ?_⟩
  walk_at "pw"
  refine ⟨w, rfl, h, ?_⟩
  walk_at "pw"
  refine ⟨by omega, compW_map D.str (fun _ => .vl []) (fun x _ R hR => ⟨by omega, hR⟩) ?_⟩
  unfold encTimes
  refine ⟨by omega, compW_map D.str (fun x => .st (encW w x)) (fun x hx R hR => ?_) ?_⟩
  · refine ⟨w, rfl, h, ?_⟩
    walk_at "pw"
    refine ⟨by omega, compW_filt encT (fun t => decide (t.goal = x)) (fun t => .st (.tup [.int (ixOf w.names t.start), .int t.count, .int (w.time t.start)])) (fun t ht R hR => ?_) ?_⟩
    · rw [encT_eq]
      walk_at "pw"
      by_cases hc : t.goal = x
      · rw [if_pos hc]
        refine ⟨⟨_, rfl⟩, fIndex_strs (h.tie ht).1 ?_⟩
        refine ⟨_, by rw [look_times h (h.tie ht).1], ?_⟩
        walk_at "pw"
        refine ⟨by omega, ?_⟩
        simpa [hc] using hR
      · rw [if_neg hc]; simpa [hc] using hR
    · rw [erase_vl (f := fun t : Ti => D.tup [.int (ixOf w.names t.start), .int t.count, .int (w.time t.start)])]
      exact hR
  rw [erase_vl (f := encW w)]
  refine ⟨by omega, by omega, by omega, ?_⟩
  rw [show D.dk (w.ms.map fun m => ((Sum.inr m.1 : Key), D.int m.2)) = encTimes w from rfl]
  have olen : ord.length = w.names.length := ho.length_eq
  refine forW_rng (fun s env => ∃ (ol : List Str) (j8 j10 : Option T), env = [some (.st (enc w)), some (.st (.int many)), some (.st (.dt (late.map fun p => (p.1, .int p.2)))), some (.st (.lst (w.names.map D.str))), some (.st (encTimes w)), some (.vl (w.names.map fun _ => .vl [])), some (.st (.lst (w.names.map (encW w)))), some (.vl (ol.map fun x => .st (.int (ixOf w.names x)))), j8, none, j10, none, none, none, none] ∧ OI w ol ∧ ∀ x ∈ w.names, ixOf ord x < s → x ∈ ol) ⟨[], _, _, rfl, ⟨List.nodup_nil, by simp, by simp⟩, by simp⟩ ?_ ?_
  · rintro s env N hs ⟨ol, j8, j10, rfl, O, hol⟩ hN
    walk_at "pw"
    refine ⟨by omega, by omega, ?_⟩
    rw [range_names h.nd]
    refine forW_inv (fun x => D.int (ixOf w.names x : Int)) (fun pre env => ∃ (ol : List Str) (j10 : Option T), env = [some (.st (enc w)), some (.st (.int many)), some (.st (.dt (late.map fun p => (p.1, .int p.2)))), some (.st (.lst (w.names.map D.str))), some (.st (encTimes w)), some (.vl (w.names.map fun _ => .vl [])), some (.st (.lst (w.names.map (encW w)))), some (.vl (ol.map fun x => .st (.int (ixOf w.names x)))), some (.st (.int s)), none, j10, none, none, none, none] ∧ OI w ol ∧ (∀ x ∈ w.names, ixOf ord x < s → x ∈ ol) ∧ ∀ x ∈ pre, ixOf ord x ≤ s → x ∈ ol) ⟨ol, _, rfl, O, hol, fun x h => by cases h⟩ ?_ ?_
    · rintro pre x post env N2 e ⟨ol, j10, rfl, O, hol, hpr⟩ hN2
      have hx : x ∈ w.names := by rw [e]; simp
      have oll : ol.length ≤ 100 := by have := len_sub O.nd O.sub; omega
      have il : (w.ins x).length ≤ 200 := Nat.le_trans (List.length_filter_le _ _) tl
      walk_at "pw"
      rw [fIn_ol O.sub hx]
      simp only [if_true]
      walk_at "pw"
      by_cases hxo : x ∈ ol
      · rw [decide_eq_true hxo]
        simp only [Bool.not_true]
        walk_at "pw"
        refine hN2 _ ⟨ol, _, rfl, O, hol, fun y hy hr => ?_⟩
        rcases List.mem_append.mp hy with hy | hy
        · exact hpr y hy hr
        · rw [List.mem_singleton.mp hy]; exact hxo
      · rw [decide_eq_false hxo]
        simp only [Bool.not_false]
        walk_at "pw"
        rw [atI_tab hx]
        refine ⟨_, rfl, ?_⟩
        unfold encW
        walk_at "pw"
        refine ⟨by omega, compW_filt (fun t : Ti => D.tup [.int (ixOf w.names t.start), .int t.count, .int (w.time t.start)]) (fun t => decide (t.count = 0)) (fun t => .st (.bl (decide (t.start ∈ ol)))) (fun t ht R hR => ?_) ?_⟩
        · walk_at "pw"
          by_cases hc : t.count = 0
          · rw [if_pos hc, fIn_ol O.sub (h.tie (Wk.ins_mem.mp ht).1).1]
            rw [if_pos (by simpa using hc)] at hR
            exact ⟨_, rfl, hR⟩
          · rw [if_neg hc]
            rw [if_neg (by simpa using hc)] at hR
            exact hR
        rw [erase_vl (f := fun t : Ti => D.bl (decide (t.start ∈ ol))), show ((w.ins x).filter fun t => decide (t.count = 0)).map (fun t : Ti => D.bl (decide (t.start ∈ ol))) = (((w.ins x).filter fun t => decide (t.count = 0)).map fun t : Ti => decide (t.start ∈ ol)).map D.bl by simp, fAll_lst]
        refine ⟨_, rfl, ?_⟩
        split
        · rename_i hall
          have hall : ∀ t ∈ w.ties, t.count = 0 → t.goal = x → t.start ∈ ol := by
            intro t ht hz hg
            rw [List.all_eq_true] at hall
            have := hall (decide (t.start ∈ ol)) (List.mem_map.mpr ⟨t, List.mem_filter.mpr ⟨Wk.ins_mem.mpr ⟨ht, hg⟩, by simpa using hz⟩, rfl⟩)
            simpa using this
          refine ⟨by omega, hN2 _ ⟨ol ++ [x], _, by rw [List.map_append]; rfl, ⟨?_, ?_, ?_⟩, fun y hy hr => List.mem_append_left _ (hol y hy hr), fun y hy hr => ?_⟩⟩
          · rw [List.nodup_append]
            exact ⟨O.nd, by simp, fun a ha b hb e2 => hxo (by rw [← List.mem_singleton.mp hb, ← e2]; exact ha)⟩
          · intro y hy
            rcases List.mem_append.mp hy with hy | hy
            · exact O.sub y hy
            · rw [List.mem_singleton.mp hy]; exact hx
          · intro t ht hz hg
            rcases List.mem_append.mp hg with hg | hg
            · obtain ⟨a1, a2⟩ := O.top t ht hz hg
              exact ⟨List.mem_append_left _ a1, by rw [ixOf_append_left a1, ixOf_append_left hg]; exact a2⟩
            · have hg := List.mem_singleton.mp hg
              have a1 := hall t ht hz hg
              exact ⟨List.mem_append_left _ a1, by rw [ixOf_append_left a1, hg, ixOf_snoc hxo]; exact ixOf_lt a1⟩
          · rcases List.mem_append.mp hy with hy | hy
            · exact List.mem_append_left _ (hpr y hy hr)
            · exact List.mem_append_right _ hy
        · rename_i hall
          refine hN2 _ ⟨ol, _, rfl, O, hol, fun y hy hr => ?_⟩
          rcases List.mem_append.mp hy with hy | hy
          · exact hpr y hy hr
          · rw [List.mem_singleton.mp hy] at hr ⊢
            exfalso
            refine hall (List.all_eq_true.mpr fun b hb => ?_)
            obtain ⟨t, ht, rfl⟩ := List.mem_map.mp hb
            obtain ⟨ht1, ht2⟩ := List.mem_filter.mp ht
            obtain ⟨ht3, ht4⟩ := Wk.ins_mem.mp ht1
            have := top t ht3 (by simpa using ht2)
            rw [ht4] at this
            simpa using hol t.start (h.tie ht3).1 (by omega)
    · rintro env ⟨ol, j10, rfl, O, hol, hpr⟩
      exact hN _ ⟨ol, _, _, rfl, O, fun x hx hr => hpr x hx (by omega)⟩
  · rintro env ⟨ol, j8, j10, rfl, O, hol⟩
    exact fin ol O (fun x hx => hol x hx (by have := ixOf_lt (ho.mem_iff.mpr hx); omega)) _ _ _ _
end Pw
namespace Pw
open PySem PySem.Spec PyProof.Rows L2
local macro_rules | `(tactic| walk_at "pw") => `(tactic| simp only [wV, wC, wOp, wUn, wTest, wAnd, wOr, wNot, wTru, wIf, wNil, wCons, wTup, wLst, wFz, wNw, wDk, wDt, wCB, wM, wM1, wCall, wGet2, wSl, wSo, wNo, wRev, wItS, wRg1, wRg2, wRg3, wEnum, wLc, wDc, wDisp, wPairs, wYes, sNext, sSeq, sAsg, sNew, sAsgT, sFrz, sDrop, sRet, sRetV, sRetN, sIf, sFor, sAugI, sApp, sSet, sSet2, sApp2, sDAug, sAppPop, sSdApp, sExt, sNever, setT_nm, setT_tp, setTs_nil, setTs_cons, T.it?, T.il?, plainL, startE, wipeE, List.map_cons, List.map_nil, List.length_cons, List.length_nil, List.replicate_succ, List.replicate_zero, List.cons_append, List.nil_append, List.append_nil, List.getElem?_cons_zero, List.getElem?_cons_succ, List.set_cons_zero, List.set_cons_succ, Option.some.injEq, T.st.injEq, T.vl.injEq, T.vk.injEq, D.tup.injEq, D.lst.injEq, D.int.injEq, D.str.injEq, D.bl.injEq, List.cons.injEq, exists_eq', exists_eq, Int.toNat_natCast, rng_eq, List.length_map, List.length_range, exists_eq_left', exists_eq_left, exists_and_left, and_true, true_and, Option.bind_some, Option.map_some, fGet_tup, fGet_lst, fGet_vl, fGet_str, fGet_dk, fGet_vk, fII_st, fAdd_int, fAdd_str, fAdd_lst, fAdd_lv, fEqA_int, fEqA_str, fNotN_non, fNotN_int, fIsN_non, fIsN_int, fLen_lst, fLen_tup, fLen_vl, fLen_str, dl_strN, dl_lst, reduceCtorEq, false_and, and_false, exists_false, false_or, or_false, fInt_int, fInt_bl, fTuple_lst, fTuple_vl, fTuple_tup, fList_tup, fList_lst, fMax_2, fMax_3, fMin_2, atI_0, atI_1, atI_2, atI_3, atI_4, erase_st, decide_eq_true_eq, Bool.false_eq_true, if_true, if_false, take_iff, isD_vk, isD_dk, gV, gD, pV, posV, sz_vk, sz_vl, kK_str, ch_vk, ch_vl, setCh_vk, setCh_vl, atI_tab, Option.getD_some, Option.getD_none, posL, putL_vl, gDt, ite_true, ite_false])

/-! ### walks through the works -/
inductive Walk (w : Wk) : Str → Str → Nat → Int → Prop
  | nil (x : Str) : Walk w x x 0 0
  | cons {t : Ti} {y : Str} {c : Nat} {s : Int} : t ∈ w.ties → Walk w t.goal y c s → Walk w t.start y (t.count.toNat + c) (w.time t.start + s)
theorem Walk.cons' {w : Wk} {t : Ti} {x y : Str} {c c' : Nat} {s s' : Int} (ht : t ∈ w.ties) (h : Walk w t.goal y c s) (e1 : x = t.start) (e2 : c' = t.count.toNat + c) (e3 : s' = w.time t.start + s) : Walk w x y c' s' := by
  subst e1 e2 e3
  exact .cons ht h
theorem Walk.snoc {w : Wk} {x y : Str} {c : Nat} {s : Int} (h : Walk w x y c s) : ∀ {t : Ti} {c' : Nat} {s' : Int}, t ∈ w.ties → y = t.start → c' = c + t.count.toNat → s' = s + w.time t.start → Walk w x t.goal c' s' := by
  induction h with
  | nil x =>
    intro t c' s' ht e1 e2 e3
    exact .cons' ht (.nil _) e1 (by omega) (by omega)
  | cons h0 _ ih =>
    intro t c' s' ht e1 e2 e3
    exact .cons' h0 (ih ht e1 rfl rfl) rfl (by omega) (by omega)
theorem Walk.last {w : Wk} {x y : Str} {c : Nat} {s : Int} (h : Walk w x y c s) : (x = y ∧ c = 0 ∧ s = 0) ∨ ∃ t ∈ w.ties, t.goal = y ∧ ∃ c' s', Walk w x t.start c' s' ∧ c = c' + t.count.toNat ∧ s = s' + w.time t.start := by
  induction h with
  | nil x => exact .inl ⟨rfl, rfl, rfl⟩
  | @cons t y c s h0 h1 ih =>
    right
    rcases ih with ⟨e1, e2, e3⟩ | ⟨t2, h2, e1, c', s', h3, e2, e3⟩
    · exact ⟨t, h0, e1, 0, 0, .nil _, by omega, by omega⟩
    · exact ⟨t2, h2, e1, _, _, .cons h0 h3, by omega, by omega⟩
theorem Walk.mem {w : Wk} (hw : w.Ok) {x y : Str} {c : Nat} {s : Int} (h : Walk w x y c s) : x = y ∨ (x ∈ w.names ∧ y ∈ w.names) := by
  induction h with
  | nil x => exact .inl rfl
  | @cons t y c s h0 h1 ih =>
    right
    have := hw.tie h0
    rcases ih with e | e
    · exact ⟨this.1, by rw [← e]; exact this.2⟩
    · exact ⟨this.1, e.2⟩
/-- the latest start of x in round k, if m has to keep to its dues -/
def IsLat (w : Wk) (m : Str) (many : Nat) (dues : Nat → Int) (x : Str) (k : Nat) : Option Int → Prop
  | none => ∀ c s, Walk w x m c s → ¬ k + c < many
  | some v => (∃ c s, Walk w x m c s ∧ k + c < many ∧ v = dues (k + c) - s) ∧ ∀ c s, Walk w x m c s → k + c < many → v ≤ dues (k + c) - s
theorem IsLat.uniq {w : Wk} {m : Str} {many : Nat} {dues : Nat → Int} {x : Str} {k : Nat} {o o' : Option Int} (h : IsLat w m many dues x k o) (h' : IsLat w m many dues x k o') : o = o' := by
  cases o with
  | none =>
    cases o' with
    | none => rfl
    | some v =>
      obtain ⟨⟨c, s, h1, h2, _⟩, _⟩ := h'
      exact absurd h2 (h c s h1)
  | some v =>
    cases o' with
    | none =>
      obtain ⟨⟨c, s, h1, h2, _⟩, _⟩ := h
      exact absurd h2 (h' c s h1)
    | some v' =>
      obtain ⟨⟨c, s, h1, h2, h3⟩, h4⟩ := h
      obtain ⟨⟨c', s', h1', h2', h3'⟩, h4'⟩ := h'
      have a1 := h4 c' s' h1' h2'
      have a2 := h4' c s h1 h2
      congr 1
      omega
/-- the ties that leave x -/
def Wk.outT (w : Wk) (x : Str) : List Ti := w.ties.filter fun t => decide (t.start = x)
theorem Wk.outT_mem {w : Wk} {t : Ti} {x : Str} : t ∈ w.outT x ↔ t ∈ w.ties ∧ t.start = x := by simp [outT]
/-- what the goings after it ask of x -/
def cand (w : Wk) (m : Str) (many : Nat) (dues : Nat → Int) (L : Str → Nat → Option Int) (x : Str) (k : Nat) : List Int :=
  ((((w.outT x).filter fun t => decide ((k : Int) + t.count < many)).map fun t => L t.goal (k + t.count.toNat)).filter Option.isSome).map (fun o => o.getD 0 - w.time x) ++ if x = m then [dues k] else []
theorem mem_cand {w : Wk} {m : Str} {many : Nat} {dues : Nat → Int} {L : Str → Nat → Option Int} {x : Str} {k : Nat} {v : Int} : v ∈ cand w m many dues L x k ↔ (∃ t ∈ w.ties, t.start = x ∧ (k : Int) + t.count < many ∧ ∃ u, L t.goal (k + t.count.toNat) = some u ∧ v = u - w.time x) ∨ (x = m ∧ v = dues k) := by
  unfold cand
  rw [List.mem_append]
  constructor
  · rintro (h | h)
    · left
      obtain ⟨o, ho, rfl⟩ := List.mem_map.mp h
      obtain ⟨h1, h2⟩ := List.mem_filter.mp ho
      obtain ⟨t, ht, rfl⟩ := List.mem_map.mp h1
      obtain ⟨h3, h4⟩ := List.mem_filter.mp ht
      obtain ⟨h5, h6⟩ := Wk.outT_mem.mp h3
      cases e : L t.goal (k + t.count.toNat) with
      | none => rw [e] at h2; simp at h2
      | some u => exact ⟨t, h5, h6, by simpa using h4, u, e, rfl⟩
    · right
      split at h
      · exact ⟨by assumption, by simpa using h⟩
      · cases h
  · rintro (⟨t, h1, h2, h3, u, h4, rfl⟩ | ⟨rfl, rfl⟩)
    · left
      refine List.mem_map.mpr ⟨some u, List.mem_filter.mpr ⟨List.mem_map.mpr ⟨t, List.mem_filter.mpr ⟨Wk.outT_mem.mpr ⟨h1, h2⟩, by simpa using h3⟩, h4⟩, rfl⟩, rfl⟩
    · right; simp
theorem walk_first {w : Wk} {x y : Str} {c : Nat} {s : Int} (h : Walk w x y c s) : (x = y ∧ c = 0 ∧ s = 0) ∨ ∃ t ∈ w.ties, t.start = x ∧ ∃ c' s', Walk w t.goal y c' s' ∧ c = t.count.toNat + c' ∧ s = w.time t.start + s' := by
  cases h with
  | nil => exact .inl ⟨rfl, rfl, rfl⟩
  | cons h0 h1 => exact .inr ⟨_, h0, rfl, _, _, h1, rfl, rfl⟩
section
variable {w : Wk} {m : Str} {many : Nat} {dues : Nat → Int} {L : Str → Nat → Option Int} {x : Str} {k : Nat}
theorem lat_some (h : w.Ok) (hL : ∀ t ∈ w.ties, t.start = x → (k : Int) + t.count < many → IsLat w m many dues t.goal (k + t.count.toNat) (L t.goal (k + t.count.toNat))) (hk : k < many) {v : Int} (hv : v ∈ cand w m many dues L x k) (hmin : ∀ y ∈ cand w m many dues L x k, v ≤ y) : IsLat w m many dues x k (some v) := by
  constructor
  · rcases mem_cand.mp hv with ⟨t, h1, h2, h3, u, h4, h5⟩ | ⟨h1, h2⟩
    · have := hL t h1 h2 h3
      rw [h4] at this
      obtain ⟨⟨c, s, a1, a2, a3⟩, _⟩ := this
      have h0 := h.cnt t h1
      exact ⟨t.count.toNat + c, w.time t.start + s, .cons' h1 a1 h2.symm rfl rfl, by omega, by rw [← Nat.add_assoc, h2]; omega⟩
    · exact ⟨0, 0, h1 ▸ .nil x, by omega, by rw [h2]; simp⟩
  · intro c s hw hc
    rcases walk_first hw with ⟨e1, e2, e3⟩ | ⟨t, h1, h2, c', s', h3, e2, e3⟩
    · have := hmin _ (mem_cand.mpr (.inr ⟨e1, rfl⟩))
      subst e2
      rw [Nat.add_zero]; omega
    · have h0 := h.cnt t h1
      have hl := hL t h1 h2 (by omega)
      cases e : L t.goal (k + t.count.toNat) with
      | none =>
        rw [e] at hl
        exact absurd (by omega) (hl c' s' h3)
      | some u =>
        rw [e] at hl
        have a1 := hl.2 c' s' h3 (by omega)
        have a2 := hmin _ (mem_cand.mpr (.inl ⟨t, h1, h2, by omega, u, e, rfl⟩))
        rw [e2, ← Nat.add_assoc]
        rw [h2] at e3
        omega
theorem lat_none (h : w.Ok) (hL : ∀ t ∈ w.ties, t.start = x → (k : Int) + t.count < many → IsLat w m many dues t.goal (k + t.count.toNat) (L t.goal (k + t.count.toNat))) (hv : cand w m many dues L x k = []) : IsLat w m many dues x k none := by
  intro c s hw hc
  have no : ∀ y, y ∉ cand w m many dues L x k := fun y => by rw [hv]; simp
  rcases walk_first hw with ⟨e1, e2, e3⟩ | ⟨t, h1, h2, c', s', h3, e2, e3⟩
  · exact no _ (mem_cand.mpr (.inr ⟨e1, rfl⟩))
  · have h0 := h.cnt t h1
    have hl := hL t h1 h2 (by omega)
    cases e : L t.goal (k + t.count.toNat) with
    | none =>
      rw [e] at hl
      exact absurd (by omega) (hl c' s' h3)
    | some u => exact no _ (mem_cand.mpr (.inl ⟨t, h1, h2, by omega, u, e, rfl⟩))
end
theorem after {row A B : List Str} {x y : Str} (nd : row.Nodup) (e : row = A ++ x :: B) (hy : y ∈ row) (h : ixOf row x < ixOf row y) : y ∈ B := by
  have hx : x ∉ A := fun m => by
    rw [e] at nd
    exact (List.nodup_append.mp nd).2.2 x m x (by simp) rfl
  rw [e] at hy
  rcases List.mem_append.mp hy with hA | hB
  · exfalso
    have h1 : ixOf row y = ixOf A y := by rw [e]; exact ixOf_append_left hA
    have h2 := ixOf_lt hA
    have h3 : ixOf row x = A.length := by
      have hl : A.length < row.length := by rw [e]; simp
      have := ixOf_getElem nd hl
      have e2 : row[A.length] = x := by simp [e]
      rw [e2] at this
      exact this
    omega
  · rcases List.mem_cons.mp hB with rfl | hB
    · omega
    · exact hB
theorem forW_dwn {n : Nat} {env : Env} {tg : Tgt} {body : SW} {E : EndsW} (I : Nat → Env → Prop) (h0 : I n env)
    (hs : ∀ (k : Nat) (env : Env) (N : Env → Prop), k < n → I (k + 1) env → (∀ env', I k env' → N env') → ∃ env', setT tg (.int k) env = some env' ∧ body { nx := N, rt := E.rt, bk := E.nx, ct := N, rv := E.rv } env')
    (hd : ∀ env, I 0 env → E.nx env) : forW tg body E (dwnD ((n : Int) - 1) n) env := by
  have e : dwnD ((n : Int) - 1) n = (List.range n).map fun i : Nat => D.int ((n : Int) - 1 - i) := rfl
  rw [e]
  refine forW_inv (fun i : Nat => D.int ((n : Int) - 1 - i)) (fun pre env => I (n - pre.length) env) h0 (fun pre x post env N e h hN => ?_) fun env h => hd env (by simpa using h)
  have h1 : x = pre.length := by
    have : (List.range n)[pre.length]? = some x := by rw [e]; simp
    rw [List.getElem?_eq_some_iff] at this
    obtain ⟨_, h⟩ := this
    simpa using h.symm
  have h2 : x < n := by
    have : x ∈ List.range n := by rw [e]; simp
    simpa using this
  subst h1
  obtain ⟨j, hj⟩ : ∃ j, n = pre.length + j + 1 := ⟨n - pre.length - 1, by omega⟩
  have ej : ((n : Int) - 1 - (pre.length : Nat)) = (j : Int) := by omega
  rw [ej]
  rw [show n - pre.length = j + 1 by omega] at h
  refine hs j env N (by omega) h fun env' h3 => hN env' ?_
  rw [List.length_append, List.length_singleton, show n - (pre.length + 1) = j by omega]
  exact h3
/-- rows that may have gaps -/
def rowO (many : Nat) (f : Nat → Option Int) : T := .vl ((List.range many).map fun k => .st (encR (f k)))
theorem fGet_rowO {many j : Nat} {i : Int} {f : Nat → Option Int} {Q : T → Prop} (hi : i = j) (h : j < many) (q : Q (.st (encR (f j)))) : fGet (rowO many f) (.st (.int i)) Q := by
  subst hi
  unfold rowO
  rw [fGet_vl]
  exact ⟨_, atI_rng h, q⟩
theorem put_rowO {many k : Nat} {f : Nat → Option Int} {v : Int} (h : k < many) : (rowO many f).put? (.int k) (.int v) = some (rowO many (updN f k (some v))) := by
  unfold rowO
  rw [putL_vl, List.length_map, List.length_range, ixN_nat h, Option.map_some, set_rng h]
  congr 2
  refine List.map_congr_left fun j _ => ?_
  unfold updN
  split <;> rfl
theorem sz_rowO {many : Nat} {f : Nat → Option Int} : (rowO many f).sz = many := by
  unfold rowO
  rw [sz_vl, List.length_map, List.length_range]
def sp_latest : PSp := fun ds R => ∃ (w : Wk) (m : Str) (many : Nat) (dues : Nat → Int), ds = [enc w, .str m, rowU many dues] ∧ w.Ok ∧ w.Endless ∧ m ∈ w.names ∧ many ≤ 10000 ∧ ∀ L : Str → Nat → Option Int, (∀ x ∈ w.names, ∀ k, k < many → IsLat w m many dues x k (L x k)) → R (.tup (w.names.map fun x => .tup ((List.range many).map fun k => encR (L x k))))
theorem l_latest : ∀ ds R, sp_latest ds R → ds.length = 3 := by rintro ds R ⟨w, row, l, r, rfl, _⟩; rfl
def latest3 : SW := (sIf (wTru (wV 14)) (sSet2 6 (wV 13) (wV 8) (wCB fMin (wCons (wV 14) wNil))) sNext)
def latest2 : SW :=
    (sSeq (sFor (wRg3 (wCons (wOp fSub (wV 5) (wC (.int 1))) (wCons (wUn fNeg (wC (.int 1))) (wCons (wUn fNeg (wC (.int 1))) wNil)))) (.nm 8) (sFor (wItS (wRev (wCall sp_round_order (wCons (wV 0) wNil)))) (.nm 13) (sFrz 7 (sSeq (sNew 14 (wLc (wItS (wOp fGet (wV 7) (wV 13))) (.tp ((.nm 11) :: ((.nm 12) :: []))) (wTest (wOp fLt (wOp fAdd (wV 8) (wV 12)) (wV 5))) (wNw (wOp fGet (wOp fGet (wV 6) (wV 11)) (wOp fAdd (wV 8) (wV 12)))) [11, 12]))
    (sFrz 14 (sSeq (sNew 14 (wLc (wItS (wV 14)) (.nm 15) (wTest (wOp fNotN (wV 15) (wC .non))) (wNw (wOp fSub (wV 15) (wOp fGet (wV 4) (wV 13)))) [15]))
    (sSeq (sIf (wTest (wOp fEqA (wV 13) (wV 1))) (sApp 14 (wOp fGet (wV 2) (wV 8))) sNext)
    latest3)))))))
    (sRet (wCB fTuple (wCons (wFz (wLc (wItS (wV 3)) (.nm 13) wYes (wNw (wCB fTuple (wCons (wOp fGet (wV 6) (wV 13)) wNil))) [13])) wNil))))
def w_latest : SW := (sSeq (sDrop (wCall sp_check_endless (wCons (wV 0) wNil)))
    (sSeq (sAsg 3 (wCall sp_names_of (wCons (wV 0) wNil)))
    (sSeq (sAsg 4 (wCall sp_times_of (wCons (wV 0) wNil)))
    (sSeq (sAsg 5 (wCB fLen (wCons (wV 2) wNil)))
    (sSeq (sNew 6 (wDc (wItS (wV 3)) (.nm 13) wYes (wV 13) (wLc (wRg1 (wCons (wV 5) wNil)) (.nm 8) wYes (wNw (wC .non)) [8]) [13]))
    (sSeq (sNew 7 (wDc (wItS (wV 3)) (.nm 13) wYes (wV 13) (wLst wNil) [13]))
    (sSeq (sFor (wItS (wCall sp_ties_of (wCons (wV 0) wNil))) (.tp ((.nm 9) :: ((.nm 10) :: ((.nm 11) :: ((.nm 12) :: []))))) (sApp2 7 (wV 10) (wTup (wCons (wV 11) (wCons (wV 12) wNil)))))
    latest2)))))))

def encG (t : Ti) : D := .tup [.str t.goal, .int t.count]
theorem latest3_ok {w : Wk} {m : Str} {many : Nat} {dues : Nat → Int} {x : Str} {k : Nat} {L : Str → Nat → Option Int} {E : EndsW} {ns : List Int} {j0 j1 j2 j3 j4 j5 j7 j9 j10 j11 j12 j15 : Option T} (h : w.Ok) (hm : many ≤ 10000) (hk : k < many) (hx : x ∈ w.names)
    (qe : ns = [] → E.nx [j0, j1, j2, j3, j4, j5, some (.vk (w.names.map fun x => ((.inr x : Key), rowO many (L x)))), j7, some (.st (.int k)), j9, j10, j11, j12, some (.st (.str x)), some (.vl (ns.map fun n => .st (.int n))), j15])
    (qm : ∀ v, v ∈ ns → (∀ y, y ∈ ns → v ≤ y) → E.nx [j0, j1, j2, j3, j4, j5, some (.vk (w.names.map fun y => ((.inr y : Key), rowO many (if y = x then updN (L x) k (some v) else L y)))), j7, some (.st (.int k)), j9, j10, j11, j12, some (.st (.str x)), some (.vl (ns.map fun n => .st (.int n))), j15]) :
    latest3 E [j0, j1, j2, j3, j4, j5, some (.vk (w.names.map fun x => ((.inr x : Key), rowO many (L x)))), j7, some (.st (.int k)), j9, j10, j11, j12, some (.st (.str x)), some (.vl (ns.map fun n => .st (.int n))), j15] := by
  unfold latest3
  walk_at "pw"
  cases ns with
  | nil =>
    refine ⟨[], rfl, ?_⟩
    simp only [List.isEmpty_nil, Bool.not_true, Bool.false_eq_true, if_false]
    exact qe rfl
  | cons n ns =>
    refine ⟨_, rfl, ?_⟩
    simp only [List.map_cons, List.isEmpty_cons, Bool.not_false, if_true]
    rw [← List.map_cons (f := fun n => T.st (D.int n))]
    refine fMin_vl (by simp) fun v h1 h2 => ?_
    refine ⟨_, pos_tab hx, rowO many (L x), ?_, .int v, rfl, ?_, _, put_rowO hk, ?_⟩
    · rw [List.map_map, List.getElem?_map, ixOf_get hx]; rfl
    · rw [sz_rowO]; omega
    · rw [setV_tab h.nd hx]
      have e : (fun y : Str => ((.inr y : Key), upd1 (fun x => rowO many (L x)) x (rowO many (updN (L x) k (some v))) y)) = fun y => ((.inr y : Key), rowO many (if y = x then updN (L x) k (some v) else L y)) := by
        funext y
        unfold upd1
        by_cases q : y = x
        · simp [q]
        · simp [q]
      rw [e]
      exact qm v h1 h2
def waysD (w : Wk) : D := .dk (w.names.map fun x => ((.inr x : Key), .lst ((w.outT x).map encG)))
theorem waysD_erase {w : Wk} : (T.vk (w.names.map fun x => ((.inr x : Key), T.vl ((w.outT x).map fun t => .st (encG t))))).erase = waysD w := by
  unfold waysD
  simp only [T.erase, eraseK_map, List.map_map]
  congr 1
  refine List.map_congr_left fun x _ => ?_
  simp only [Function.comp]
  rw [erase_vl (f := encG)]
theorem latest2_ok {w : Wk} {m : Str} {many : Nat} {dues : Nat → Int} {R : D → Prop} {j9 j10 j11 j12 : Option T} (h : w.Ok) (he : w.Endless) (hmm : m ∈ w.names) (hm : many ≤ 10000)
    (q : ∀ L : Str → Nat → Option Int, (∀ x ∈ w.names, ∀ k, k < many → IsLat w m many dues x k (L x k)) → R (.tup (w.names.map fun x => .tup ((List.range many).map fun k => encR (L x k))))) :
    latest2 { nx := fun _ => R .non, rt := R } [some (.st (enc w)), some (.st (.str m)), some (.st (rowU many dues)), some (.st (.lst (w.names.map D.str))), some (.st (encTimes w)), some (.st (.int many)), some (.vk (w.names.map fun x => ((.inr x : Key), rowO many fun _ => none))), some (.vk (w.names.map fun x => ((.inr x : Key), .vl ((w.outT x).map fun t => .st (encG t))))), none, j9, j10, j11, j12, none, none, none] := by
  have nl := h.nlen
  have tl := h.tie_len
  unfold latest2
  walk_at "pw"
  refine ⟨1, rfl, 1, rfl, (many : Int) - 1, -1, ⟨rfl, rfl, rfl⟩, ⟨by omega, by omega, by omega, by omega⟩, ?_⟩
  rw [show ((many : Int) - 1 - -1).toNat = many by omega]
  refine forW_dwn (fun K env => ∃ (L : Str → Nat → Option Int) (t7 : T) (j8 j9 j10 j11 j12 j13 j14 : Option T), env = [some (.st (enc w)), some (.st (.str m)), some (.st (rowU many dues)), some (.st (.lst (w.names.map D.str))), some (.st (encTimes w)), some (.st (.int many)), some (.vk (w.names.map fun x => ((.inr x : Key), rowO many (L x)))), some t7, j8, j9, j10, j11, j12, j13, j14, none] ∧ t7.erase = waysD w ∧
    (∀ x ∈ w.names, ∀ j, j < many → K ≤ j → IsLat w m many dues x j (L x j)) ∧ ∀ x ∈ w.names, ∀ j, j < K → L x j = none) ?_ ?_ ?_
  · exact ⟨fun _ _ => none, _, _, _, _, _, _, _, _, rfl, waysD_erase, fun x hx j h1 h2 => absurd h1 (by omega), fun _ _ _ _ => rfl⟩
  · rintro k env N hk ⟨L, t7, j8, j9, j10, j11, j12, j13, j14, rfl, ht7, hL, hL0⟩ hN
    walk_at "pw"
    refine ⟨w, rfl, h, he, fun row hp topo => ?_⟩
    walk_at "pw"
    rw [← List.map_reverse]
    have rnd : row.Nodup := hp.nodup_iff.mpr h.nd
    refine forW_inv D.str (fun pre env => ∃ (L : Str → Nat → Option Int) (t7 : T) (j9 j10 j13 j14 : Option T), env = [some (.st (enc w)), some (.st (.str m)), some (.st (rowU many dues)), some (.st (.lst (w.names.map D.str))), some (.st (encTimes w)), some (.st (.int many)), some (.vk (w.names.map fun x => ((.inr x : Key), rowO many (L x)))), some t7, some (.st (.int k)), j9, j10, j11, j12, j13, j14, none] ∧ t7.erase = waysD w ∧
      (∀ x ∈ w.names, ∀ j, j < many → (k < j ∨ (j = k ∧ x ∈ pre)) → IsLat w m many dues x j (L x j)) ∧ ∀ x ∈ w.names, ∀ j, (j < k ∨ (j = k ∧ x ∉ pre)) → L x j = none) ⟨L, t7, _, _, _, _, rfl, ht7, fun x hx j hj hc => hL x hx j hj (by rcases hc with hc | ⟨_, hc⟩; exact hc; cases hc), fun x hx j hc => hL0 x hx j (by omega)⟩ ?_ ?_
    · rintro pre x post env N2 e ⟨L, t7, j9, j10, j13, j14, rfl, ht7, hL, hL0⟩ hN2
      have hxr : x ∈ row := by
        have : x ∈ row.reverse := by rw [e]; simp
        exact List.mem_reverse.mp this
      have hx : x ∈ w.names := hp.mem_iff.mp hxr
      have hxp : x ∉ pre := fun hm => by
        have : row.reverse.Nodup := (List.reverse_perm row).nodup_iff.mpr rnd
        rw [e] at this
        exact (List.nodup_append.mp this).2.2 x hm x (by simp) rfl
      have er : row = post.reverse ++ x :: pre.reverse := by
        have := congrArg List.reverse e
        simpa using this
      have hsucc : ∀ t ∈ w.ties, t.start = x → (k : Int) + t.count < many → IsLat w m many dues t.goal (k + t.count.toNat) (L t.goal (k + t.count.toNat)) := by
        intro t ht hs hc
        have h0 := h.cnt t ht
        refine hL _ (h.tie ht).2 _ (by omega) ?_
        by_cases hz : t.count = 0
        · right
          refine ⟨by omega, ?_⟩
          have := topo t ht hz
          rw [hs] at this
          exact List.mem_reverse.mp (after rnd er (hp.mem_iff.mpr (h.tie ht).2) this)
        · left; omega
      walk_at "pw"
      simp only [ht7]
      unfold waysD
      walk_at "pw"
      refine ⟨_, by rw [look_tab hx], ?_⟩
      have ol : (w.outT x).length ≤ 200 := Nat.le_trans (List.length_filter_le _ _) tl
      walk_at "pw"
      refine ⟨by omega, compW_filt encG (fun t => decide ((k : Int) + t.count < many)) (fun t => .st (encR (L t.goal (k + t.count.toNat)))) (fun t ht R hR => ?_) ?_⟩
      · unfold encG
        walk_at "pw"
        obtain ⟨h1, h2⟩ := Wk.outT_mem.mp ht
        have h0 := h.cnt t h1
        by_cases hc : (k : Int) + t.count < many
        · rw [if_pos hc]
          rw [if_pos (by simpa using hc)] at hR
          refine ⟨_, by rw [look_tab (h.tie h1).2], fGet_rowO (j := k + t.count.toNat) (by omega) (by omega) ⟨_, rfl, hR⟩⟩
        · rw [if_neg hc]
          rw [if_neg (by simpa using hc)] at hR
          exact hR
      rw [erase_vl (f := fun t : Ti => encR (L t.goal (k + t.count.toNat)))]
      have fl : ((w.outT x).filter fun t => decide ((k : Int) + t.count < many)).length ≤ 200 := Nat.le_trans (List.length_filter_le _ _) ol
      refine ⟨_, rfl, by rw [List.length_map]; omega, ?_⟩
      rw [show ((w.outT x).filter fun t => decide ((k : Int) + t.count < many)).map (fun t : Ti => encR (L t.goal (k + t.count.toNat))) = (((w.outT x).filter fun t => decide ((k : Int) + t.count < many)).map fun t : Ti => L t.goal (k + t.count.toNat)).map encR by rw [List.map_map]; rfl]
      refine compW_filt encR Option.isSome (fun o => .st (.int (o.getD 0 - w.time x))) (fun o ho R hR => ?_) ?_
      · cases o with
        | none =>
          unfold encR
          rw [fNotN_non]
          exact ⟨_, rfl, hR⟩
        | some u =>
          unfold encR
          rw [fNotN_int]
          refine ⟨_, rfl, ?_⟩
          rw [if_pos rfl]
          unfold encTimes
          walk_at "pw"
          refine ⟨_, by rw [look_times h hx], ?_⟩
          walk_at "pw"
          exact hR
      have fin : ∀ (E : EndsW) (ts : List T), E.nx = N2 → ts = (cand w m many dues L x k).map (fun n => T.st (.int n)) → latest3 E [some (.st (enc w)), some (.st (.str m)), some (.st (rowU many dues)), some (.st (.lst (w.names.map D.str))), some (.st (encTimes w)), some (.st (.int many)), some (.vk (w.names.map fun x => ((.inr x : Key), rowO many (L x)))), some (.st (waysD w)), some (.st (.int k)), j9, j10, j11, j12, some (.st (.str x)), some (.vl ts), none] := by
        intro E ts hE hts
        subst hts
        refine latest3_ok (m := m) (dues := dues) h hm hk hx (fun hc => ?_) (fun v h1 h2 => ?_)
        · rw [hE]
          refine hN2 _ ⟨L, .st (waysD w), _, _, _, _, rfl, by simp, fun y hy j hj hc2 => ?_, fun y hy j hc2 => hL0 y hy j ?_⟩
          · by_cases q : j = k ∧ y = x
            · obtain ⟨rfl, rfl⟩ := q
              rw [hL0 y hy j (.inr ⟨rfl, hxp⟩)]
              exact lat_none h hsucc hc
            · refine hL y hy j hj ?_
              rcases hc2 with hc2 | ⟨hc2, hc3⟩
              · exact .inl hc2
              · rcases List.mem_append.mp hc3 with h3 | h3
                · exact .inr ⟨hc2, h3⟩
                · exact absurd ⟨hc2, List.mem_singleton.mp h3⟩ q
          · rcases hc2 with hc2 | ⟨hc2, hc3⟩
            · exact .inl hc2
            · exact .inr ⟨hc2, fun h3 => hc3 (List.mem_append_left _ h3)⟩
        · rw [hE]
          refine hN2 _ ⟨fun y => if y = x then updN (L x) k (some v) else L y, .st (waysD w), _, _, _, _, rfl, by simp, fun y hy j hj hc2 => ?_, fun y hy j hc2 => ?_⟩
          · by_cases q : j = k ∧ y = x
            · obtain ⟨rfl, rfl⟩ := q
              simp only [if_true, updN_same]
              exact lat_some h hsucc hk h1 h2
            · have e : (if y = x then updN (L x) k (some v) else L y) j = L y j := by
                by_cases q2 : y = x
                · rw [if_pos q2, updN_ne (fun q3 => q ⟨q3, q2⟩), q2]
                · rw [if_neg q2]
              show IsLat w m many dues y j ((if y = x then updN (L x) k (some v) else L y) j)
              rw [e]
              refine hL y hy j hj ?_
              rcases hc2 with hc2 | ⟨hc2, hc3⟩
              · exact .inl hc2
              · rcases List.mem_append.mp hc3 with h3 | h3
                · exact .inr ⟨hc2, h3⟩
                · exact absurd ⟨hc2, List.mem_singleton.mp h3⟩ q
          · have nq : ¬ (j = k ∧ y = x) := fun ⟨q1, q2⟩ => by
              rcases hc2 with hc2 | ⟨hc2, hc3⟩
              · omega
              · exact hc3 (by rw [q2]; simp)
            have e : (if y = x then updN (L x) k (some v) else L y) j = L y j := by
              by_cases q2 : y = x
              · rw [if_pos q2, updN_ne (fun q3 => nq ⟨q3, q2⟩), q2]
              · rw [if_neg q2]
            show (if y = x then updN (L x) k (some v) else L y) j = none
            rw [e]
            refine hL0 y hy j ?_
            rcases hc2 with hc2 | ⟨hc2, hc3⟩
            · exact .inl hc2
            · exact .inr ⟨hc2, fun h3 => hc3 (List.mem_append_left _ h3)⟩
      unfold waysD at fin
      by_cases hxm : x = m
      · rw [if_pos hxm]
        refine ⟨?_, fGet_rowU rfl hk ⟨_, rfl, fin _ _ rfl ?_⟩⟩
        · rw [List.length_map]
          refine Nat.le_trans (List.length_filter_le _ _) ?_
          rw [List.length_map]; omega
        · unfold cand
          rw [if_pos hxm, List.map_append, List.map_map]; rfl
      · rw [if_neg hxm]
        refine fin _ _ rfl ?_
        unfold cand
        rw [if_neg hxm, List.append_nil, List.map_map]; rfl
    · rintro env ⟨L, t7, j9, j10, j13, j14, rfl, ht7, hL, hL0⟩
      refine hN _ ⟨L, t7, _, _, _, _, _, _, _, rfl, ht7, fun x hx j hj hc => hL x hx j hj ?_, fun x hx j hc => hL0 x hx j (.inl hc)⟩
      by_cases q : k < j
      · exact .inl q
      · exact .inr ⟨by omega, List.mem_reverse.mpr (hp.mem_iff.mpr hx)⟩
  · rintro env ⟨L, t7, j8, j9, j10, j11, j12, j13, j14, rfl, ht7, hL, hL0⟩
    walk_at "pw"
    refine ⟨by omega, compW_map D.str (fun x => .st (.tup ((List.range many).map fun k => encR (L x k)))) (fun x hx R hR => ?_) ?_⟩
    · walk_at "pw"
      refine ⟨_, by rw [look_tab hx], ?_⟩
      have e : rowO many (L x) = .vl (((List.range many).map fun k => encR (L x k)).map T.st) := by unfold rowO; rw [List.map_map]; rfl
      rw [e, fTuple_vl]
      exact ⟨_, rfl, hR⟩
    · rw [erase_vl (f := fun x => D.tup ((List.range many).map fun k => encR (L x k)))]
      walk_at "pw"
      exact q L fun x hx k hk => hL x hx k hk (Nat.zero_le _)
theorem p_latest : ∀ ds R, sp_latest ds R → w_latest { nx := fun _ => R .non, rt := R } (startE 16 ds) := by
  rintro ds R ⟨w, m, many, dues, rfl, h, he, hm, hmany, q⟩
  have nl := h.nlen
  have tl := h.tie_len
  unfold w_latest
  walk_at "pw"
  refine ⟨w, rfl, h, he, ?_⟩
  refine ⟨w, rfl, h, ?_⟩
  walk_at "pw"
  refine ⟨w, rfl, h, ?_⟩
  unfold rowU
  walk_at "pw"
  refine ⟨by omega, compD_map D.str (fun x => .inr x) (fun _ => rowO many fun _ => none) (fun x _ R hR => ?_) ?_ (fun x _ => rfl) ?_⟩
  · walk_at "pw"
    refine ⟨by omega, by omega, by omega, compW_map (fun i : Nat => D.int i) (fun _ => .st .non) (fun i _ R hR => hR) hR⟩
  · exact List.Pairwise.map _ (fun a b hab e => hab (Sum.inr.inj e)) h.nd
  rw [List.nil_append]
  refine ⟨by omega, compD_map D.str (fun x => .inr x) (fun _ => .vl []) (fun x _ R hR => ?_) ?_ (fun x _ => rfl) ?_⟩
  · walk_at "pw"
    exact ⟨by omega, hR⟩
  · exact List.Pairwise.map _ (fun a b hab e => hab (Sum.inr.inj e)) h.nd
  rw [List.nil_append]
  refine ⟨w, rfl, h, ?_⟩
  walk_at "pw"
  rw [show D.tup ((List.range many).map fun k => D.int (dues k)) = rowU many dues from rfl]
  refine forW_inv encT (fun pre env => ∃ (j9 j10 j11 j12 : Option T), env = [some (.st (enc w)), some (.st (.str m)), some (.st (rowU many dues)), some (.st (.lst (w.names.map D.str))), some (.st (encTimes w)), some (.st (.int many)), some (.vk (w.names.map fun x => ((.inr x : Key), rowO many fun _ => none))), some (.vk (w.names.map fun x => ((.inr x : Key), .vl ((pre.filter fun t => decide (t.start = x)).map fun t => .st (encG t))))), none, j9, j10, j11, j12, none, none, none]) ⟨_, _, _, _, rfl⟩ ?_ ?_
  · rintro pre t post env N e ⟨j9, j10, j11, j12, rfl⟩ hN
    have ht : t ∈ w.ties := by rw [e]; simp
    have hs := (h.tie ht).1
    rw [encT_eq]
    walk_at "pw"
    refine ⟨_, pos_tab hs, _, by rw [List.map_map, List.getElem?_map, ixOf_get hs]; rfl, ?_, by omega, ?_⟩
    · rw [List.length_map]
      have := List.length_filter_le (fun t' : Ti => decide (t'.start = t.start)) pre
      have := congrArg List.length e
      simp at this
      omega
    · rw [setV_tab h.nd hs]
      have e2 : (fun y : Str => ((.inr y : Key), upd1 (fun x => T.vl ((pre.filter fun t => decide (t.start = x)).map fun t => T.st (encG t))) t.start (T.vl (((pre.filter fun t' => decide (t'.start = t.start)).map fun t => T.st (encG t)) ++ [T.st (.tup [.str t.goal, .int t.count])])) y)) = fun x => ((.inr x : Key), T.vl (((pre ++ [t]).filter fun t => decide (t.start = x)).map fun t => T.st (encG t))) := by
        funext y
        unfold upd1
        rw [List.filter_append]
        by_cases q : y = t.start
        · subst q
          rw [if_pos rfl, List.filter_cons_of_pos (by simp), List.map_append]; rfl
        · rw [if_neg q, List.filter_cons_of_neg (by simpa using Ne.symm q)]
          simp
      rw [e2]
      exact hN _ ⟨_, _, _, _, rfl⟩
  · rintro env ⟨j9, j10, j11, j12, rfl⟩
    exact latest2_ok h he hm hmany q
end Pw
namespace Pw
open PySem PySem.Spec PyProof.Rows L2
local macro_rules | `(tactic| walk_at "pw") => `(tactic| simp only [wV, wC, wOp, wUn, wTest, wAnd, wOr, wNot, wTru, wIf, wNil, wCons, wTup, wLst, wFz, wNw, wDk, wDt, wCB, wM, wM1, wCall, wGet2, wSl, wSo, wNo, wRev, wItS, wRg1, wRg2, wRg3, wEnum, wLc, wDc, wDisp, wPairs, wYes, sNext, sSeq, sAsg, sNew, sAsgT, sFrz, sDrop, sRet, sRetV, sRetN, sIf, sFor, sAugI, sApp, sSet, sSet2, sApp2, sDAug, sAppPop, sSdApp, sExt, sNever, setT_nm, setT_tp, setTs_nil, setTs_cons, T.it?, T.il?, plainL, startE, wipeE, List.map_cons, List.map_nil, List.length_cons, List.length_nil, List.replicate_succ, List.replicate_zero, List.cons_append, List.nil_append, List.append_nil, List.getElem?_cons_zero, List.getElem?_cons_succ, List.set_cons_zero, List.set_cons_succ, Option.some.injEq, T.st.injEq, T.vl.injEq, T.vk.injEq, D.tup.injEq, D.lst.injEq, D.int.injEq, D.str.injEq, D.bl.injEq, List.cons.injEq, exists_eq', exists_eq, Int.toNat_natCast, rng_eq, List.length_map, List.length_range, exists_eq_left', exists_eq_left, exists_and_left, and_true, true_and, Option.bind_some, Option.map_some, fGet_tup, fGet_lst, fGet_vl, fGet_str, fGet_dk, fGet_vk, fII_st, fAdd_int, fAdd_str, fAdd_lst, fAdd_lv, fEqA_int, fEqA_str, fNotN_non, fNotN_int, fIsN_non, fIsN_int, fLen_lst, fLen_tup, fLen_vl, fLen_str, dl_strN, dl_lst, reduceCtorEq, false_and, and_false, exists_false, false_or, or_false, fInt_int, fInt_bl, fTuple_lst, fTuple_vl, fTuple_tup, fList_tup, fList_lst, fMax_2, fMax_3, fMin_2, atI_0, atI_1, atI_2, atI_3, atI_4, erase_st, decide_eq_true_eq, Bool.false_eq_true, if_true, if_false, take_iff, isD_vk, isD_dk, gV, gD, pV, posV, sz_vk, sz_vl, kK_str, ch_vk, ch_vl, setCh_vk, setCh_vl, atI_tab, Option.getD_some, Option.getD_none, posL, putL_vl, gDt, ite_true, ite_false])

/-! ### data that are compared -/
def Good (n : Nat) (d : D) : Prop := d.isPy = true ∧ d.py.canLay0 = true ∧ d.py.depth ≤ n
theorem Good.up {n m : Nat} {d : D} (h : Good n d) (l : n ≤ m) : Good m d := ⟨h.1, h.2.1, Nat.le_trans h.2.2 l⟩
theorem good_int (i : Int) : Good 0 (.int i) := ⟨rfl, rfl, Nat.le_refl _⟩
theorem good_str {x : Str} (h : PyData.strOk x = true) : Good 0 (.str x) := ⟨rfl, h, Nat.le_refl _⟩
theorem good_bl (x : Bool) : Good 0 (.bl x) := ⟨rfl, rfl, Nat.le_refl _⟩
theorem good_non : Good 0 .non := ⟨rfl, rfl, Nat.le_refl _⟩
theorem good_encR (o : Option Int) : Good 0 (encR o) := by cases o; exact good_non; exact good_int _
theorem goods {n : Nat} : ∀ {ds : List D}, (∀ d ∈ ds, Good n d) → arePy ds = true ∧ PyData.canLayAll0 (pys ds) = true ∧ PyData.depthAll (pys ds) ≤ n
  | [], _ => ⟨rfl, rfl, Nat.zero_le _⟩
  | d :: ds, h => by
    obtain ⟨a1, a2, a3⟩ := h d (.head _)
    obtain ⟨b1, b2, b3⟩ := goods (ds := ds) fun e m => h e (.tail _ m)
    refine ⟨?_, ?_, ?_⟩
    · unfold arePy; rw [a1, b1]; rfl
    · unfold pys PyData.canLayAll0; rw [a2, b2]; rfl
    · unfold pys PyData.depthAll; omega
theorem good_lst {n : Nat} {ds : List D} (h : ∀ d ∈ ds, Good n d) : Good (n + 1) (.lst ds) := by
  obtain ⟨b1, b2, b3⟩ := goods h
  refine ⟨?_, ?_, ?_⟩
  · unfold D.isPy; exact b1
  · unfold D.py PyData.canLay0; exact b2
  · unfold D.py PyData.depth; omega
theorem good_tup {n : Nat} {ds : List D} (h : ∀ d ∈ ds, Good n d) : Good (n + 1) (.tup ds) := by
  obtain ⟨b1, b2, b3⟩ := goods h
  refine ⟨?_, ?_, ?_⟩
  · unfold D.isPy; exact b1
  · unfold D.py PyData.canLay0; exact b2
  · unfold D.py PyData.depth; omega
theorem Good.shaped {n : Nat} {d : D} (h : Good n d) (l : n ≤ 64) : SeqAt.shaped d.py = true := by
  unfold SeqAt.shaped
  rw [h.2.1]
  simp
  have := h.2.2
  omega
theorem fNeA_same {n : Nat} {d : D} {Q : T → Prop} (h : Good n d) (l : n ≤ 64) (q : Q (.st (.bl false))) : fNeA (.st d) (.st d) Q := by
  refine .inr ⟨d, d, rfl, rfl, h.1, h.1, h.shaped l, h.shaped l, ?_⟩
  rw [if_pos rfl, SeqAt.eqv_refl _ h.2.1]
  exact q
theorem fEqA_same {n : Nat} {d : D} {Q : T → Prop} (h : Good n d) (l : n ≤ 64) (q : Q (.st (.bl true))) : fEqA (.st d) (.st d) Q := by
  refine .inr ⟨d, d, rfl, rfl, h.1, h.1, h.shaped l, h.shaped l, ?_⟩
  rw [if_neg (by simp), SeqAt.eqv_refl _ h.2.1]
  exact q
theorem good_tabU {xs : List Str} {many : Nat} {f : Str → Nat → Int} : Good 2 (tabU xs many f) := by
  refine good_tup fun d hd => ?_
  obtain ⟨x, _, rfl⟩ := List.mem_map.mp hd
  refine good_tup fun d hd => ?_
  obtain ⟨k, _, rfl⟩ := List.mem_map.mp hd
  exact good_int _
/-! ### the greatest ways -/
/-- the longest walk from x to y by c rounds -/
def IsGr (w : Wk) (x y : Str) (c : Nat) : Option Int → Prop
  | none => ∀ s, ¬ Walk w x y c s
  | some v => Walk w x y c v ∧ ∀ s, Walk w x y c s → s ≤ v
def sp_greatest_ways : PSp := fun ds R => ∃ (w : Wk) (a b : Str) (many : Nat), ds = [enc w, .str a, .str b, .int many] ∧ w.Ok ∧ w.Endless ∧ a ∈ w.names ∧ b ∈ w.names ∧ many ≤ 10000 ∧ ∀ g : Nat → Option Int, (∀ c, c < many → IsGr w a b c (g c)) → R (.lst ((List.range many).map fun c => encR (g c)))
theorem l_greatest_ways : ∀ ds R, sp_greatest_ways ds R → ds.length = 4 := by rintro ds R ⟨w, a, b, m, rfl, _⟩; rfl
def sp_latest_releases : PSp := fun ds R => ∃ (w : Wk) (a m : Str) (many : Nat) (dues : Nat → Int), ds = [enc w, .str a, .str m, rowU many dues] ∧ w.Ok ∧ w.Endless ∧ a ∈ w.names ∧ m ∈ w.names ∧ many ≤ 10000 ∧ (∀ k, k < many → w.st m k ≤ dues k) ∧ ∀ L : Nat → Option Int, (∀ k, k < many → IsLat w m many dues a k (L k)) → R (.lst ((List.range many).map fun k => encR (L k)))
theorem l_latest_releases : ∀ ds R, sp_latest_releases ds R → ds.length = 4 := by rintro ds R ⟨w, a, b, m, d, rfl, _⟩; rfl
def sp_float_of : PSp := fun ds R => ∃ (w : Wk) (m : Str) (many : Nat) (dues : Nat → Int) (x : Str) (k : Nat), ds = [enc w, .str m, rowU many dues, .str x, .int k] ∧ w.Ok ∧ w.Endless ∧ m ∈ w.names ∧ x ∈ w.names ∧ many ≤ 9999 ∧ k < many ∧ ∀ o, IsLat w m many dues x k o → R (encR (o.map fun v => v - w.st x k))
theorem l_float_of : ∀ ds R, sp_float_of ds R → ds.length = 5 := by rintro ds R ⟨w, a, m, d, b, k, rfl, _⟩; rfl
def w_latest_releases : SW := (sSeq (sDrop (wCall sp_check_endless (wCons (wV 0) wNil)))
    (sSeq (sAsg 4 (wCB fLen (wCons (wV 3) wNil)))
    (sSeq (sAsg 5 (wCall sp_names_of (wCons (wV 0) wNil)))
    (sSeq (sAsg 6 (wOp fGet (wCall sp_released (wCons (wV 0) (wCons (wV 1) (wCons (wCB fTuple (wCons (wFz (wLc (wRg1 (wCons (wV 4) wNil)) (.nm 9) wYes (wNw (wC (.int 0))) [9])) wNil)) wNil)))) (wM fIndex (wV 5) (wCons (wV 2) wNil))))
    (sSeq (sIf (wTest (wCB fAny (wCons (wFz (wLc (wRg1 (wCons (wV 4) wNil)) (.nm 9) wYes (wNw (wOp fGt (wOp fGet (wV 6) (wV 9)) (wOp fGet (wV 3) (wV 9)))) [9])) wNil))) (sRet (wC .non)) sNext)
    (sSeq (sAsg 7 (wCall sp_greatest_ways (wCons (wV 0) (wCons (wV 1) (wCons (wV 2) (wCons (wV 4) wNil))))))
    (sSeq (sNew 8 (wLst wNil))
    (sSeq (sFor (wRg1 (wCons (wV 4) wNil)) (.nm 9) (sSeq (sAsg 10 (wFz (wLc (wRg1 (wCons (wOp fSub (wV 4) (wV 9)) wNil)) (.nm 11) (wTest (wOp fNotN (wOp fGet (wV 7) (wV 11)) (wC .non))) (wNw (wOp fSub (wOp fGet (wV 3) (wOp fAdd (wV 9) (wV 11))) (wOp fGet (wV 7) (wV 11)))) [11])))
    (sApp 8 (wIf (wTru (wV 10)) (wCB fMin (wCons (wV 10) wNil)) (wC .non)))))
    (sFrz 8 (sRet (wV 8)))))))))))
def w_float_of : SW := (sSeq (sAsg 5 (wOp fGet (wOp fGet (wCall sp_latest (wCons (wV 0) (wCons (wV 1) (wCons (wV 2) wNil)))) (wM fIndex (wCall sp_names_of (wCons (wV 0) wNil)) (wCons (wV 3) wNil))) (wV 4)))
    (sSeq (sIf (wTest (wOp fIsN (wV 5) (wC .non))) (sRet (wC .non)) sNext)
    (sRet (wOp fSub (wV 5) (wOp fGet (wOp fGet (wCall sp_rounds (wCons (wV 0) (wCons (wOp fAdd (wV 4) (wC (.int 1))) (wCons (wFz wDt) wNil)))) (wM fIndex (wCall sp_names_of (wCons (wV 0) wNil)) (wCons (wV 3) wNil))) (wV 4))))))

theorem Wk.st_isM {w : Wk} (h : w.Ok) (he : w.Endless) {m : Str} {r : Nat → Int} (hr : ∀ k, r k ≤ w.st m k) : w.Rec (Wk.combM m r) w.st := by
  intro x hx k
  unfold Wk.combM
  rw [Wk.st_rec h he hx k]
  by_cases e : x = m
  · rw [if_pos e, ← List.cons_append, maxL_snoc (by simp)]
    have := hr k
    rw [← e, Wk.st_rec h he hx k] at this
    omega
  · rw [if_neg e, List.append_nil]
theorem Wk.st_nonneg {w : Wk} (h : w.Ok) (he : w.Endless) {x : Str} (hx : x ∈ w.names) (k : Nat) : 0 ≤ w.st x k := by
  rw [Wk.st_rec h he hx k]
  exact le_maxL (by simp)
/-- the bounds that the ways give -/
theorem lat_of_gr {w : Wk} {a m : Str} {many : Nat} {dues : Nat → Int} {g : Nat → Option Int} (hg : ∀ c, c < many → IsGr w a m c (g c)) {k : Nat} (hk : k < many) {ns : List Int}
    (hns : ∀ v, v ∈ ns ↔ ∃ c, c < many - k ∧ ∃ u, g c = some u ∧ v = dues (k + c) - u) : (ns = [] → IsLat w m many dues a k none) ∧ ∀ v, v ∈ ns → (∀ y, y ∈ ns → v ≤ y) → IsLat w m many dues a k (some v) := by
  constructor
  · intro hn c s hw hc
    have h1 := hg c (by omega)
    cases e : g c with
    | none => rw [e] at h1; exact h1 s hw
    | some u =>
      have := (hns (dues (k + c) - u)).mpr ⟨c, by omega, u, e, rfl⟩
      rw [hn] at this; cases this
  · intro v hv hmin
    constructor
    · obtain ⟨c, hc, u, e, rfl⟩ := (hns v).mp hv
      have h1 := hg c (by omega)
      rw [e] at h1
      exact ⟨c, u, h1.1, by omega, rfl⟩
    · intro c s hw hc
      have h1 := hg c (by omega)
      cases e : g c with
      | none => rw [e] at h1; exact absurd hw (h1 s)
      | some u =>
        rw [e] at h1
        have h2 := h1.2 s hw
        have h3 := hmin _ ((hns (dues (k + c) - u)).mpr ⟨c, by omega, u, e, rfl⟩)
        omega
theorem p_float_of : ∀ ds R, sp_float_of ds R → w_float_of { nx := fun _ => R .non, rt := R } (startE 6 ds) := by
  rintro ds R ⟨w, m, many, dues, x, k, rfl, h, he, hm, hx, hmany, hk, q⟩
  unfold w_float_of
  walk_at "pw"
  refine ⟨w, m, many, dues, rfl, h, he, hm, by omega, fun L hL => ?_⟩
  refine ⟨w, rfl, h, ?_⟩
  refine ⟨⟨_, rfl⟩, fIndex_strs hx ?_⟩
  rw [fGet_tup]
  refine ⟨_, atI_tab hx, ?_⟩
  rw [fGet_tup]
  refine ⟨_, atI_rng hk, ?_⟩
  have := q _ (hL x hx k hk)
  cases e : L x k with
  | none =>
    rw [e] at this
    refine ⟨_, rfl, ?_⟩
    unfold encR
    walk_at "pw"
    exact this
  | some v =>
    rw [e] at this
    refine ⟨_, rfl, ?_⟩
    unfold encR
    walk_at "pw"
    refine ⟨w, k + 1, [], by simp [T.erase, eraseM], h, he, by omega, ?_⟩
    rw [show w.sol (w.combL fun p k => (look ([] : List (List Key × Int)) [.inl (p : Int), .inl (k : Int)]).getD 0) = w.st from rfl]
    refine ⟨w, rfl, h, ⟨_, rfl⟩, fIndex_strs hx (fGet_tabD hx (fGet_rowD rfl (by omega) ?_))⟩
    walk_at "pw"
    exact this
theorem p_latest_releases : ∀ ds R, sp_latest_releases ds R → w_latest_releases { nx := fun _ => R .non, rt := R } (startE 12 ds) := by
  rintro ds R ⟨w, a, m, many, dues, rfl, h, he, ha, hm, hmany, hd, q⟩
  have nl := h.nlen
  unfold w_latest_releases
  walk_at "pw"
  refine ⟨w, rfl, h, he, ?_⟩
  rw [show rowU many dues = .tup ((List.range many).map fun k => .int (dues k)) from rfl]
  walk_at "pw"
  refine ⟨w, rfl, h, ?_⟩
  walk_at "pw"
  refine ⟨by omega, by omega, by omega, compW_map (fun i : Nat => D.int i) (fun _ => .st (.int 0)) (fun i _ R hR => hR) ?_⟩
  rw [erase_vl (f := fun _ : Nat => D.int 0)]
  walk_at "pw"
  refine ⟨w, a, many, fun _ => 0, rfl, h, he, ha, by omega, ?_⟩
  have e0 : tabU w.names many (w.sol (Wk.combM a fun _ => 0)) = tabU w.names many w.st := tabU_congr fun x hx k _ => Wk.Rec.uniq h he (Wk.sol_rec h he _) (Wk.st_isM h he fun k => Wk.st_nonneg h he ha k) x hx k
  rw [e0]
  refine ⟨⟨_, rfl⟩, fIndex_strs hm (fGet_tabU hm ?_)⟩
  refine ⟨_, rfl, by omega, by omega, by omega, ?_⟩
  refine compW_map (fun i : Nat => D.int i) (fun k => .st (.bl (decide (w.st m k > dues k)))) (fun i hi R hR => ?_) ?_
  · have hi : i < many := by simpa using hi
    refine fGet_rowU rfl hi ?_
    rw [fGet_tup]
    refine ⟨_, atI_rng hi, ?_⟩
    walk_at "pw"
    exact hR
  rw [erase_vl (f := fun k => D.bl (decide (w.st m k > dues k))), show (List.range many).map (fun k => D.bl (decide (w.st m k > dues k))) = ((List.range many).map fun k => decide (w.st m k > dues k)).map D.bl by rw [List.map_map]; rfl, fAny_lst]
  have ea : ((List.range many).map fun k => decide (w.st m k > dues k)).any id = false := by
    rw [List.any_eq_false]
    intro b hb
    obtain ⟨k, hk, rfl⟩ := List.mem_map.mp hb
    have := hd k (by simpa using hk)
    simp
    omega
  rw [ea]
  refine ⟨_, rfl, ?_⟩
  rw [if_neg (by simp)]
  refine ⟨w, a, m, many, rfl, h, he, ha, hm, hmany, fun g hg => ?_⟩
  walk_at "pw"
  refine ⟨by omega, by omega, by omega, ?_⟩
  refine forW_rng (fun k env => ∃ (L : Nat → Option Int) (j9 j10 : Option T), env = [some (.st (enc w)), some (.st (.str a)), some (.st (.str m)), some (.st (rowU many dues)), some (.st (.int many)), some (.st (.lst (w.names.map D.str))), some (.st (rowU many (w.st m))), some (.st (.lst ((List.range many).map fun c => encR (g c)))), some (.vl ((List.range k).map fun j => .st (encR (L j)))), j9, j10, none] ∧ ∀ j, j < k → IsLat w m many dues a j (L j)) ⟨fun _ => none, _, _, rfl, fun j hj => absurd hj (by omega)⟩ ?_ ?_
  · rintro k env N hk ⟨L, j9, j10, rfl, hL⟩ hN
    walk_at "pw"
    have ek : ((many : Int) - (k : Int)).toNat = many - k := by omega
    rw [ek]
    refine ⟨by omega, by omega, by omega, compW_filt (fun i : Nat => D.int i) (fun c => (g c).isSome) (fun c => .st (.int (dues (k + c) - (g c).getD 0))) (fun c hc R hR => ?_) ?_⟩
    · have hc : c < many - k := by simpa using hc
      walk_at "pw"
      refine ⟨_, atI_rng (show c < many by omega), ?_⟩
      cases e : g c with
      | none =>
        rw [e] at hR
        unfold encR
        rw [fNotN_non]
        exact ⟨_, rfl, hR⟩
      | some u =>
        rw [e] at hR
        unfold encR
        rw [fNotN_int]
        refine ⟨_, rfl, ?_⟩
        rw [if_pos rfl]
        refine fGet_rowU (j := k + c) (by omega) (by omega) ?_
        refine ⟨_, atI_rng (show c < many by omega), ?_⟩
        rw [e]
        walk_at "pw"
        exact hR
    · have key := lat_of_gr (k := k) hg hk (ns := ((List.range (many - k)).filter fun c => (g c).isSome).map fun c => dues (k + c) - (g c).getD 0) (fun v => by
        constructor
        · intro hv
          obtain ⟨c, hc, rfl⟩ := List.mem_map.mp hv
          obtain ⟨h1, h2⟩ := List.mem_filter.mp hc
          cases e : g c with
          | none => rw [e] at h2; cases h2
          | some u => exact ⟨c, by simpa using h1, u, e, rfl⟩
        · rintro ⟨c, hc, u, e, rfl⟩
          exact List.mem_map.mpr ⟨c, List.mem_filter.mpr ⟨by simpa using hc, by rw [e]; rfl⟩, by rw [e]; rfl⟩)
      rw [erase_vl (f := fun c : Nat => D.int (dues (k + c) - (g c).getD 0)), show ((List.range (many - k)).filter fun c => (g c).isSome).map (fun c => D.int (dues (k + c) - (g c).getD 0)) = (((List.range (many - k)).filter fun c => (g c).isSome).map fun c => dues (k + c) - (g c).getD 0).map D.int by rw [List.map_map]; rfl]
      generalize (((List.range (many - k)).filter fun c => (g c).isSome).map fun c => dues (k + c) - (g c).getD 0) = ns at key ⊢
      have fin : ∀ o, IsLat w m many dues a k o → ∀ j9 j10, N [some (.st (enc w)), some (.st (.str a)), some (.st (.str m)), some (.st (rowU many dues)), some (.st (.int many)), some (.st (.lst (w.names.map D.str))), some (.st (rowU many (w.st m))), some (.st (.lst ((List.range many).map fun c => encR (g c)))), some (.vl (((List.range k).map fun j => .st (encR (L j))) ++ [.st (encR o)])), j9, j10, none] := by
        intro o ho j9 j10
        have e : (((List.range k).map fun j => T.st (encR (L j))) ++ [.st (encR o)]) = (List.range (k + 1)).map fun j => T.st (encR (updN L k o j)) := by
          rw [List.range_succ, List.map_append]
          congr 1
          · refine List.map_congr_left fun j hj => ?_
            rw [updN_ne]
            have : j < k := by simpa using hj
            omega
          · simp
        rw [e]
        refine hN _ ⟨updN L k o, _, _, rfl, fun j hj => ?_⟩
        by_cases q : j = k
        · subst q; rw [updN_same]; exact ho
        · rw [updN_ne q]; exact hL j (by omega)
      refine ⟨by omega, ?_⟩
      cases ns with
      | nil =>
        refine ⟨[], rfl, ?_⟩
        rw [if_neg (by simp)]
        exact fin none (key.1 rfl) _ _
      | cons v vs =>
        refine ⟨_, rfl, ?_⟩
        rw [if_pos (by simp)]
        exact fMin_lst (by simp) fun v h1 h2 => ⟨_, rfl, fin (some v) (key.2 v h1 h2) _ _⟩
  · rintro env ⟨L, j9, j10, rfl, hL⟩
    walk_at "pw"
    rw [erase_vl (f := fun j => encR (L j))]
    exact q L hL
/-! ### the law of dues and releases -/
theorem rel_le {w : Wk} (h : w.Ok) (he : w.Endless) {a : Str} {r : Nat → Int} {S : Str → Nat → Int} (hS : w.Rec (Wk.combM a r) S) : ∀ x ∈ w.names, ∀ k, S x k ≤ w.st x k ∨ ∃ c s j, Walk w a x c s ∧ j + c = k ∧ S x k ≤ r j + s := by
  refine he.ind h fun x hx k ih => ?_
  have h1 := hS x hx k
  unfold Wk.combM at h1
  have h2 := Wk.st_rec h he hx k
  have hm := maxL_mem (ns := 0 :: (w.preds S x k ++ if x = a then [r k] else [])) (by simp)
  rw [← h1] at hm
  rcases List.mem_cons.mp hm with hm | hm
  · left
    rw [hm]
    exact Wk.st_nonneg h he hx k
  · rcases List.mem_append.mp hm with hm | hm
    · unfold Wk.preds at hm
      obtain ⟨t, ht, e⟩ := List.mem_map.mp hm
      obtain ⟨ht1, ht2⟩ := List.mem_filter.mp ht
      obtain ⟨ht3, ht4⟩ := Wk.ins_mem.mp ht1
      have hc : t.count ≤ (k : Int) := by simpa using ht2
      have h0 := h.cnt t ht3
      rcases ih t ht1 hc with q | ⟨c, s, j, q1, q2, q3⟩
      · left
        have : w.st t.start (k - t.count.toNat) + w.time t.start ≤ w.st x k := by
          rw [h2]
          exact le_maxL (.tail _ (List.mem_map.mpr ⟨t, ht, rfl⟩))
        omega
      · right
        refine ⟨c + t.count.toNat, s + w.time t.start, j, ?_, by omega, by omega⟩
        rw [← ht4]
        exact q1.snoc ht3 rfl rfl rfl
    · right
      split at hm
      · rename_i e
        refine ⟨0, 0, k, ?_, rfl, ?_⟩
        · rw [e]; exact .nil _
        · have := List.mem_singleton.mp hm
          omega
      · cases hm
theorem rel_mono {w : Wk} (h : w.Ok) (he : w.Endless) {a : Str} {r r' : Nat → Int} {S S' : Str → Nat → Int} (n : Nat) (hS : w.Rec (Wk.combM a r) S) (hS' : w.Rec (Wk.combM a r') S') (hr : ∀ k, k < n → r k ≤ r' k) : ∀ x ∈ w.names, ∀ k, k < n → S x k ≤ S' x k := by
  refine he.ind h fun x hx k ih hk => ?_
  have h1 := hS x hx k
  have h2 := hS' x hx k
  unfold Wk.combM at h1 h2
  have hm := maxL_mem (ns := 0 :: (w.preds S x k ++ if x = a then [r k] else [])) (by simp)
  rw [← h1] at hm
  rw [h2]
  rcases List.mem_cons.mp hm with hm | hm
  · rw [hm]
    exact le_maxL (by simp)
  · rcases List.mem_append.mp hm with hm | hm
    · unfold Wk.preds at hm
      obtain ⟨t, ht, e⟩ := List.mem_map.mp hm
      obtain ⟨ht1, ht2⟩ := List.mem_filter.mp ht
      have hc : t.count ≤ (k : Int) := by simpa using ht2
      have := ih t ht1 hc (by omega)
      have q : S' t.start (k - t.count.toNat) + w.time t.start ≤ maxL (0 :: (w.preds S' x k ++ if x = a then [r' k] else [])) :=
        le_maxL (.tail _ (List.mem_append_left _ (List.mem_map.mpr ⟨t, ht, rfl⟩)))
      omega
    · split at hm
      · rename_i e
        have e1 := List.mem_singleton.mp hm
        have := hr k hk
        have q : r' k ≤ maxL (0 :: (w.preds S' x k ++ if x = a then [r' k] else [])) := by
          rw [if_pos e]
          exact le_maxL (.tail _ (List.mem_append_right _ (List.mem_singleton.mpr rfl)))
        rw [if_pos e] at q ⊢
        omega
      · cases hm
theorem paired_fun {n : Nat} {P : Nat → Int → Prop} {ts : List T} (h : Paired (fun k t => ∃ v, P k v ∧ t = T.st (.int v)) (List.range n) ts) : ∃ f : Nat → Int, ts = ((List.range n).map fun k => T.st (.int (f k))) ∧ ∀ k, k < n → P k (f k) := by
  obtain ⟨vs, rfl, hp⟩ := paired_map h
  have hl := paired_len hp
  rw [List.length_range] at hl
  refine ⟨fun k => vs.getD k 0, ?_, fun k hk => ?_⟩
  · apply List.ext_getElem (by simp [hl])
    intro j h1 h2
    simp at h1
    simp [List.getElem?_eq_getElem h1]
  · have := paired_get hp k (by simpa using hk) (by omega)
    simp only [List.getElem_range] at this
    show P k (vs.getD k 0)
    rw [List.getD_eq_getElem?_getD, List.getElem?_eq_getElem (by omega)]
    exact this
end Pw
namespace Pw
open PySem PySem.Spec PyProof.Rows L2
/-! ### a name that stands for the last member of a list that another name holds -/
structure OkL (K : PySem.W.Frag) (b : Option Addr) (F0 H0 F H : Hp) (σ : L2.St) (env : Env) (i j : Nat) : Prop where
  ok : Ok K b F0 H0 F H σ env
  ts : ∃ ts u, env[i]? = some (some (.vl (ts ++ [u])))
  al : ∃ p xs a, σ[i]? = some (some (.ref p)) ∧ H p = some (.lst (xs ++ [.ref a])) ∧ σ[j]? = some (some (.ref a))
section
variable {K : PySem.W.Frag} {b : Option Addr} {F H F' H' F'' H'' F0 H0 : Hp} {v w y : V} {vs : List V} {d : D} {ds : List D} {t u : T} {ts : List T} {f g fp : List Addr} {σ : L2.St} {env : Env} {a p : Addr} {o : HO} {i j : Nat}
variable {ta tb te tc td ty tx tk : TE} {wa wb we wc wd wk wx : EW} {tt tu : TT} {wt wu : TW} {tr : TA} {wr : AW} {wi : TI} {wI : IW}
theorem OkL.nb (O : OkL K b F0 H0 F H σ env i j) (h : σ[i]? = some (some (.ref p))) : b ≠ some p := by
  obtain ⟨ts, u, e⟩ := O.ts
  obtain ⟨v, f, h1, h2, h3⟩ := O.ok.get e
  have := opt_some h h1
  subst this
  cases h2 with
  | vl _ _ _ => exact h3 _ (.head _)
theorem OkL.step (O : OkL K b F0 H0 F H σ env i j) (S : Stp K b F H F' H') : OkL K b F0 H0 F' H' σ env i j := by
  obtain ⟨p, xs, a, h1, h2, h3⟩ := O.al
  exact ⟨O.ok.step S, O.ts, p, xs, a, h1, S.hh p _ h2 (O.nb h1), h3⟩
theorem OkL.setD (O : OkL K b F0 H0 F H σ env i j) {k : Nat} (hi : k ≠ i) (hj : k ≠ j) (h : Rep K b F v d) : OkL K b F0 H0 F H (σ.set k (some v)) (env.set k (some (.st d))) i j := by
  obtain ⟨p, xs, a, h1, h2, h3⟩ := O.al
  obtain ⟨ts, u, e⟩ := O.ts
  exact ⟨O.ok.setD k h, ⟨ts, u, by rw [List.getElem?_set_ne hi]; exact e⟩, p, xs, a, by rw [List.getElem?_set_ne hi]; exact h1, h2, by rw [List.getElem?_set_ne hj]; exact h3⟩
/-- what the alias stands for -/
theorem OkL.last (O : OkL K b F0 H0 F H σ env i j) {es : List (Key × T)} (e : env[i]? = some (some (.vl (ts ++ [.vk es])))) : ∃ a, σ[j]? = some (some (.ref a)) ∧ Got K b F H (.ref a) (.vk es) := by
  obtain ⟨p, xs, a, h1, h2, h3⟩ := O.al
  obtain ⟨v, f, h4, h5, h6⟩ := O.ok.get e
  have := opt_some h1 h4
  subst this
  refine ⟨a, h3, ?_⟩
  cases h5 with
  | vl z0 z1 z2 =>
    rw [h2] at z1
    cases z1
    have hl := z2.length
    simp at hl
    obtain ⟨w, g, k1, k2, k3⟩ := z2.get (i := ts.length) (t := .vk es) (by simp)
    rw [List.getElem?_append_right (by omega)] at k1
    simp [hl] at k1
    subst k1
    exact ⟨g, k2, fun c m => h6 c (.tail _ (k3 c m))⟩
def SoL (K : PySem.W.Frag) (i j : Nat) (t : TS) (w : SW) : Prop := ∀ (b : Option Addr) (F0 H0 F H : Hp) (σ : L2.St) (env : Env), OkL K b F0 H0 F H σ env i j → ∀ E : EndsW, w E env → ∀ D : Ends,
  (∀ F' H' σ' env', Same F F' → OkL K b F0 H0 F' H' σ' env' i j → E.nx env' → D.nx σ' H') → t D σ H
def SoTL (K : PySem.W.Frag) (i j : Nat) (t : TT) (w : TW) : Prop := ∀ (b : Option Addr) (F0 H0 F H : Hp) (σ : L2.St) (env : Env), OkL K b F0 H0 F H σ env i j → ∀ Q' : Bool → Prop, w env Q' → ∀ Q : Bool → Hp → Prop,
  (∀ c F' H', Stp K b F H F' H' → Q' c → Q c H') → t σ H Q
def SoEL (K : PySem.W.Frag) (i j : Nat) (t : TE) (w : EW) : Prop := ∀ (b : Option Addr) (F0 H0 F H : Hp) (σ : L2.St) (env : Env), OkL K b F0 H0 F H σ env i j → ∀ Q' : T → Prop, w env Q' → ∀ Q : VK,
  (∀ v tt F' H', Stp K b F H F' H' → Got K b F' H' v tt → Q' tt → Q v H') → t σ H Q
theorem SoT.l (h : SoT K tt wt) : SoTL K i j tt wt := fun b F0 H0 F H σ env O Q' h1 Q q => h _ _ _ _ _ _ _ O.ok Q' h1 Q q
theorem sl_next : SoL K i j tNext sNext := fun b F0 H0 F H σ env O E h D q => q F H σ env (.refl F) O h
theorem sl_seq {t1 t2 : TS} {s1 s2 : SW} (h1 : SoL K i j t1 s1) (h2 : SoL K i j t2 s2) : SoL K i j (tSeq t1 t2) (sSeq s1 s2) := fun b F0 H0 F H σ env O E h D q =>
  h1 _ _ _ _ _ _ _ O _ h { D with nx := t2 D } fun F' H' σ' env' s O' h' => h2 _ _ _ _ _ _ _ O' E h' D fun F2 H2 σ2 env2 s2 O2 e2 => q F2 H2 σ2 env2 (s.trans s2) O2 e2
theorem sl_asg {k : Nat} (hi : k ≠ i) (hj : k ≠ j) (h : SoE K te we) : SoL K i j (tAsg te (gName k)) (sAsg k we) := fun b F0 H0 F H σ env O E h1 D q =>
  h _ _ _ _ _ _ _ O.ok _ h1 _ fun v t F1 H1 S1 g1 ⟨d, e, h2⟩ => by
    subst e
    exact q F1 H1 _ _ S1.ff ((O.step S1).setD hi hj g1.inv_st) h2
theorem sl_if {t1 t2 : TS} {s1 s2 : SW} (h : SoTL K i j tt wt) (h1 : SoL K i j t1 s1) (h2 : SoL K i j t2 s2) : SoL K i j (tIfS tt t1 t2) (sIf wt s1 s2) := fun b F0 H0 F H σ env O E h0 D q =>
  h _ _ _ _ _ _ _ O _ h0 _ fun c F1 H1 S1 h3 => by
    have q' : ∀ F' H' σ' env', Same F1 F' → OkL K b F0 H0 F' H' σ' env' i j → E.nx env' → D.nx σ' H' := fun F2 H2 σ2 env2 s2 O2 e2 => q F2 H2 σ2 env2 (S1.ff.trans s2) O2 e2
    cases c with
    | true => exact h1 _ _ _ _ _ _ _ (O.step S1) E h3 D q'
    | false => exact h2 _ _ _ _ _ _ _ (O.step S1) E h3 D q'
mutual
theorem setT_get : ∀ {t : Tgt} {d : D} {env env' : Env} {k : Nat}, setT t d env = some env' → k ∉ t.slots → env'[k]? = env[k]?
  | .nm i, d, env, env', k, e, h => by
    rw [setT_nm] at e
    cases e
    refine List.getElem?_set_ne fun q => h ?_
    unfold Tgt.slots
    rw [q]; exact .head _
  | .tp ts, .tup ds, env, env', k, e, h => by
    rw [setT_tp] at e
    exact setTs_get e (by unfold Tgt.slots at h; exact h)
  | .tp ts, .non, env, env', k, e, h => by unfold setT at e; cases e
  | .tp ts, .bl _, env, env', k, e, h => by unfold setT at e; cases e
  | .tp ts, .int _, env, env', k, e, h => by unfold setT at e; cases e
  | .tp ts, .str _, env, env', k, e, h => by unfold setT at e; cases e
  | .tp ts, .lst _, env, env', k, e, h => by unfold setT at e; cases e
  | .tp ts, .dk _, env, env', k, e, h => by unfold setT at e; cases e
  | .tp ts, .dt _, env, env', k, e, h => by unfold setT at e; cases e
  | .tp ts, .scr _, env, env', k, e, h => by unfold setT at e; cases e
  | .tp ts, .bx, env, env', k, e, h => by unfold setT at e; cases e
theorem setTs_get : ∀ {ts : List Tgt} {ds : List D} {env env' : Env} {k : Nat}, setTs ts ds env = some env' → k ∉ slotsL ts → env'[k]? = env[k]?
  | [], [], env, env', k, e, h => by rw [setTs_nil] at e; cases e; rfl
  | [], _ :: _, env, env', k, e, h => by unfold setTs at e; cases e
  | _ :: _, [], env, env', k, e, h => by unfold setTs at e; cases e
  | t :: ts, d :: ds, env, env', k, e, h => by
    rw [setTs_cons, Option.bind_eq_some_iff] at e
    obtain ⟨env1, e1, e2⟩ := e
    unfold slotsL at h
    rw [setTs_get e2 fun m => h (List.mem_append_right _ m), setT_get e1 fun m => h (List.mem_append_left _ m)]
end
theorem wipe_out {σ σ' : L2.St} {vs : List Nat} {k : Nat} (h : L2.wipe σ' vs = L2.wipe σ vs) (m : k ∉ vs) : σ'[k]? = σ[k]? := by
  have := congrArg (fun s => s[k]?) h
  simp only [wipe_get, m, if_false] at this
  exact this
theorem sl_for {g : TG} {tg : Tgt} {tb : TS} {body : SW} (hi : SoI K wi wI) (hg : SoG K g tg) (hb : SoL K i j tb body) (ni : i ∉ tg.slots) (nj : j ∉ tg.slots) : SoL K i j (tFor wi g tb) (sFor wI tg body) := fun b F0 H0 F H σ env O E h1 D q =>
  hi _ _ _ _ _ _ _ O.ok _ h1 _ fun J ds F1 H1 S1 Y h2 => by
    refine ⟨fun n m σ' H' => ∃ F' env', Same F1 F' ∧ OkL K b F0 H0 F' H' σ' env' i j ∧ n ≤ ds.length ∧ m = ds.length - n ∧ forW tg body E (ds.drop n) env', ⟨ds.length, F1, env, .refl F1, O.step S1, Nat.zero_le _, by simp, by simpa using h2⟩, ?_⟩
    rintro n m σ' H' ⟨F', env', s, O', li, em, hf⟩
    by_cases hlt : n < ds.length
    · obtain ⟨d, ed, ed'⟩ := drop_get hlt
      rw [ed'] at hf
      obtain ⟨env2, e2, hb2⟩ := hf
      obtain ⟨go, yl⟩ := Y.1 n d ed F' H' s O'.ok.fit
      refine .inr ⟨go, fun σ'' H'' => ∃ F' env', Same F1 F' ∧ OkL K b F0 H0 F' H'' σ'' env' i j ∧ forW tg body E (ds.drop (n + 1)) env', fun σ'' H'' ⟨F', env', z1, z2, z3⟩ => ⟨ds.length - (n + 1), by omega, F', env', z1, z2, by omega, rfl, z3⟩, fun x H2 y => ?_⟩
      obtain ⟨F2, S2, r2⟩ := yl x H2 y
      have s2 : Same F1 F2 := s.trans S2.ff
      have O2 := O'.step S2
      refine hg _ _ _ _ _ _ _ _ _ _ O2.ok r2 e2 _ fun σ2 O3 wp => ?_
      have w0 := wp tg.slots fun _ m => m
      obtain ⟨p, xs, a, z1, z2, z3⟩ := O2.al
      obtain ⟨ts, u, z4⟩ := O2.ts
      have O4 : OkL K b F0 H0 F2 H2 σ2 env2 i j := ⟨O3, ⟨ts, u, by rw [setT_get e2 ni]; exact z4⟩, p, xs, a, by rw [wipe_out w0 ni]; exact z1, z2, by rw [wipe_out w0 nj]; exact z3⟩
      refine hb _ _ _ _ _ _ _ O4 _ hb2 _ fun F3 H3 σ3 env3 s3 O3 h3 => ⟨F3, env3, s2.trans s3, O3, h3⟩
    · have e : n = ds.length := by omega
      subst e
      rw [List.drop_length] at hf
      exact .inl ⟨Y.2 F' H' s O'.ok.fit, q F' H' σ' env' (S1.ff.trans s) O' hf⟩
/-- alias.get(k, x) -/
def wGetL (i : Nat) (wk wx : EW) : EW := fun env Q => ∃ ts es, env[i]? = some (some (.vl (ts ++ [.vk es]))) ∧ wk env fun y => wx env fun z => ∃ k o, y = .st k ∧ (T.vk es).get? k = some o ∧ Q (o.getD z)
theorem sl_get2 (hk : SoE K ty wk) (hx : SoE K tx wx) : SoEL K i j (tDGet2 (tVar j) ty tx) (wGetL i wk wx) := fun b F0 H0 F H σ env O Q' ⟨ts, es, e0, h2⟩ Q q => by
  obtain ⟨a0, hs, g1⟩ := O.last e0
  obtain ⟨a, ea, i1⟩ := g1.isD O.ok.same rfl
  cases ea
  refine ⟨_, hs, a0, rfl, i1, hk _ _ _ _ _ _ _ O.ok _ h2 _ fun y ty' F2 H2 S2 g2 h3 => hx _ _ _ _ _ _ _ (O.ok.step S2) _ h3 _ fun z tz F3 H3 S3 g3 ⟨k, r, ek, e3, h4⟩ => ?_⟩
  subst ek
  have S := S2.trans S3
  obtain ⟨a', o, ea, g, z⟩ := (g1.step S).dget S.sub (g2.step S3).inv_st e3
  cases ea
  refine ⟨o, g, ?_⟩
  rcases z with ⟨rfl, rfl⟩ | ⟨u, w, rfl, rfl, gw⟩
  · exact q _ _ F3 H3 S g3 h4
  · exact q _ _ F3 H3 S gw h4
theorem sl_op {r : R2} {fr : T → T → (T → Prop) → Prop} (ha : SoE K ta wa) (hb : SoEL K i j tb wb) (hr : SoR K r fr) : SoEL K i j (tOp r ta tb) (wOp fr wa wb) := fun b F0 H0 F H σ env O Q' h Q q =>
  ha _ _ _ _ _ _ _ O.ok _ h _ fun x tx F1 H1 S1 g1 h1 => hb _ _ _ _ _ _ _ (O.step S1) _ h1 _ fun y ty F2 H2 S2 g2 h2 =>
    hr b F2 H2 x y tx ty ((O.ok.step S1).step S2).fit (g1.step S2) g2 Q' h2 Q fun v tt F3 H3 S3 g3 h3 => q v tt F3 H3 ((S1.trans S2).trans S3) g3 h3
theorem sl_test (h : SoEL K i j te we) : SoTL K i j (tTest te) (wTest we) := fun b F0 H0 F H σ env O Q' h1 Q q =>
  h _ _ _ _ _ _ _ O _ h1 _ fun v tt F1 H1 S1 g1 ⟨c, e, h2⟩ => ⟨c, by subst e; exact g1.bl, q c F1 H1 S1 h2⟩
/-- alias[k] = e -/
def sSetL (i : Nat) (wk we : EW) : SW := fun E env => we env fun u => wk env fun k => ∃ ts es, env[i]? = some (some (.vl (ts ++ [.vk es]))) ∧ ∃ d kd c', u = .st d ∧ k = .st kd ∧ es.length ≤ 100000 ∧ (T.vk es).put? kd d = some c' ∧ E.nx (env.set i (some (.vl (ts ++ [c']))))
theorem sl_set (hk : SoE K tk wk) (he : SoE K te we) : SoL K i j (tAsg te (gSub (tVar j) tk rSetA)) (sSetL i wk we) := fun b F0 H0 F H σ env O E h D q =>
  he _ _ _ _ _ _ _ O.ok _ h _ fun y ty F1 H1 S1 g1 h1 => by
    have O1 := O.step S1
    obtain ⟨p, xs, a0, z1, z2, z3⟩ := O1.al
    refine ⟨_, z3, hk _ _ _ _ _ _ _ O1.ok _ h1 _ fun k tk F2 H2 S2 g2 ⟨ts, es, et, d, kd, c', e4, e5, sz, e6, h6⟩ => ?_⟩
    subst e4 e5
    have O2 := O1.step S2
    obtain ⟨v', f', e7, r2, nf, kf, mk⟩ := O2.ok.mut et
    have hv : V.ref p = v' := opt_some z1 e7
    subst hv
    have z2' := S2.hh p _ z2 (O1.nb z1)
    have hch : (T.vl (ts ++ [.vk es])).ch[ts.length]? = some (.vk es) := by simp [T.ch]
    have hxl : xs.length = ts.length := by
      cases r2 with
      | vl y0 y1 y2 =>
        rw [z2'] at y1; cases y1
        have := y2.length
        simp at this
        exact this
    have pf : p ∈ f' := by cases r2 with | vl _ _ _ => exact .head _
    obtain ⟨g, rg, ng, sg, up⟩ := r2.child_at (w := .ref a0) nf hch (fun a xs' q1 q2 => by cases q1; rw [z2'] at q2; cases q2; rw [← hxl]; simp) (fun a kvs q1 q2 => by cases q1; rw [z2'] at q2; cases q2) (fun a kvs q1 q2 => by cases q1; rw [z2'] at q2; cases q2)
    obtain ⟨l, o, g', el, ml, r3, sl, rs⟩ := rg.put ng (g1.step S2).inv_st g2.inv_st O2.ok.same sz e6
    cases el
    obtain ⟨f'', r4, nf'', sf⟩ := up _ _ g' (fun a o m z => upd_keep m ml z) r3 (ng.sublist sl) fun a m => .inl (sl.subset m)
    have esc : (T.vl (ts ++ [.vk es])).setCh ts.length c' = .vl (ts ++ [c']) := by
      show T.vl ((ts ++ [T.vk es]).set ts.length c') = _
      rw [List.set_append_right _ _ (by omega)]
      simp
    rw [esc] at r4
    have O3 := mk _ _ f'' (fun a o m z => upd_keep m (sg _ ml) z) (fun a m => upd_there (r2.known a m).2) r4 nf'' sf
    have npa : p ≠ a0 := fun e => by
      subst e
      cases rg with
      | vk _ q2 _ _ => rw [z2'] at q2; cases q2
    refine rs _ (q F2 _ _ _ (S1.ff.trans S2.ff) ⟨O3, ⟨ts, c', ?_⟩, p, xs, a0, z1, by rw [upd_ne npa]; exact z2', z3⟩ h6)
    have hlt : i < env.length := (List.getElem?_eq_some_iff.mp et).1
    rw [List.getElem?_set_self hlt]
theorem EnvR.take : ∀ {σ : L2.St} {env : Env} {fp : List Addr} {j : Nat} {t : T}, EnvR K b F H σ env fp → env[j]? = some (some t) → ∃ v l f r, σ[j]? = some (some v) ∧ fp = l ++ (f ++ r) ∧ RepT K b F H v t f ∧ EnvR K b F H σ (env.set j none) (l ++ r)
  | _, _, _, _, _, .nil, h => by simp at h
  | _, _, _, 0, _, .no r, h => by simp at h
  | _, _, _, j + 1, _, .no r, h => by
    obtain ⟨v, l, f, r', h1, h2, h3, h4⟩ := EnvR.take (j := j) r (by simpa using h)
    exact ⟨v, l, f, r', by simpa using h1, h2, h3, .no h4⟩
  | _, _, _, 0, _, .yes h0 r, h => by
    simp at h
    subst h
    exact ⟨_, [], _, _, rfl, rfl, h0, .no r⟩
  | _, _, _, j + 1, _, .yes (f := f1) h0 r, h => by
    obtain ⟨v, l, f, r', h1, h2, h3, h4⟩ := EnvR.take (j := j) r (by simpa using h)
    refine ⟨v, f1 ++ l, f, r', by simpa using h1, by rw [h2, List.append_assoc], h3, ?_⟩
    rw [List.append_assoc]
    exact .yes h0 h4
def sMove (i j : Nat) (s : SW) : SW := fun E env => ∃ ts es, env[i]? = some (some (.vl ts)) ∧ env[j]? = some (some (.vk es)) ∧ ts.length ≤ 100000 ∧ s E ((env.set j none).set i (some (.vl (ts ++ [.vk es]))))
theorem so_move {t2 : TS} {s : SW} (hij : i ≠ j) (h : SoL K i j t2 s) : SoS K (tSeq (tDrop (tBM K "list" rAppend (tVar i) (tCons (tVar j) tNil))) t2) (sMove i j s) := fun b F0 H0 F H σ env O E ⟨ts, es, e1, e2, hl, h0⟩ D q => by
  obtain ⟨fp, rr, nd, kk⟩ := O.ev
  obtain ⟨w, l, f, r, g1, rfl, g3, g4⟩ := rr.take e2
  have e1' : (env.set j none)[i]? = some (some (.vl ts)) := by rw [List.getElem?_set_ne (Ne.symm hij)]; exact e1
  obtain ⟨v, l2, f2, r2, k1, k2, k3, k4⟩ := g4.focus e1'
  obtain ⟨a0, hw, ha0⟩ : ∃ a0, w = .ref a0 ∧ True := by
    cases g3 with
    | vk _ _ _ _ => exact ⟨_, rfl, trivial⟩
  subst hw
  cases k3 with
  | @vl p vs ts f3 y0 y1 y2 =>
    -- the new foot print
    have nd1 : (l ++ (f ++ r)).Nodup := nd
    have perm : (l ++ (f ++ r)).Perm ((l ++ r) ++ f) := by
      rw [List.append_assoc]
      exact List.Perm.append_left l List.perm_append_comm
    have nd2 : ((l2 ++ ((p :: f3) ++ r2)) ++ f).Nodup := by rw [← k2]; exact perm.nodup_iff.mp nd1
    obtain ⟨nA, nB, nC⟩ := List.nodup_append.mp nd2
    obtain ⟨nL, nM, nN⟩ := List.nodup_append.mp nA
    obtain ⟨nP, nR, nQ⟩ := List.nodup_append.mp nM
    have pin : ∀ a, a ∈ l2 ∨ a ∈ p :: f3 ∨ a ∈ r2 ∨ a ∈ f → a ∈ l ++ (f ++ r) := by
      intro a m
      refine perm.mem_iff.mpr ?_
      rw [k2]
      rcases m with m | m | m | m
      · exact List.mem_append_left _ (List.mem_append_left _ m)
      · exact List.mem_append_left _ (List.mem_append_right _ (List.mem_append_left _ m))
      · exact List.mem_append_left _ (List.mem_append_right _ (List.mem_append_right _ m))
      · exact List.mem_append_right _ m
    have pnf : p ∉ f := fun m => nC p (List.mem_append_right _ (List.mem_append_left _ (.head _))) p m rfl
    have pnf3 : p ∉ f3 := (List.nodup_cons.mp nP).1
    have pnl : p ∉ l2 := fun m => nN p m p (List.mem_append_left _ (.head _)) rfl
    have pnr : p ∉ r2 := fun m => nQ p (.head _) p m rfl
    let H' := upd H p (.lst (vs ++ [.ref a0]))
    have hk : ∀ a o, a ≠ p → H a = some o → H' a = some o := fun a o n z => by show upd H p _ a = _; rw [upd_ne n]; exact z
    have rn : RepT K b F H' (.ref p) (.vl (ts ++ [.vk es])) (p :: (f3 ++ f)) := by
      refine .vl y0 upd_same ?_
      have r3 := y2.append (RepTs.cons g3 .nil)
      rw [List.append_nil] at r3
      exact r3.keep (fun _ _ z => z) fun a m => ⟨rfl, upd_ne fun e => by subst e; rcases List.mem_append.mp m with m | m; exact pnf3 m; exact pnf m⟩
    have env' := k4 F H' (.vl (ts ++ [.vk es])) (p :: (f3 ++ f)) (fun _ _ z => z) (fun a m => ⟨rfl, upd_ne fun e => by subst e; rcases m with m | m; exact pnl m; exact pnr m⟩) rn
    have ndn : (l2 ++ ((p :: (f3 ++ f)) ++ r2)).Nodup := by
      have : (l2 ++ ((p :: (f3 ++ f)) ++ r2)).Perm ((l2 ++ ((p :: f3) ++ r2)) ++ f) := by
        rw [List.append_assoc]
        refine List.Perm.append_left l2 ?_
        show (p :: (f3 ++ f) ++ r2).Perm ((p :: f3 ++ r2) ++ f)
        simp only [List.cons_append, List.append_assoc]
        exact (List.Perm.append_left f3 List.perm_append_comm).cons p
      exact this.nodup_iff.mpr nd2
    have bp := (kk p (pin p (.inr (.inl (.head _)))))
    have subs : Same F H' := fun a o z => by
      by_cases e : a = p
      · subst e; rw [y0] at z; cases z
      · exact hk a o e (O.st.sub a o z)
    have bxx : ∀ a, b = some a → BoxAt K F H' a := fun a e => by
      obtain ⟨x0, r, ns, n, x1, x2⟩ := O.bx a e
      refine ⟨x0, r, ns, n, hk a _ (fun z => ?_) x1, x2⟩
      subst z; exact bp.2 e
    have On : Ok K b F0 H0 F H' σ ((env.set j none).set i (some (.vl (ts ++ [.vk es])))) := by
      refine ⟨⟨O.st.ff, subs, fun a o z nb => ?_, fun a o z => ?_, O.st.fk, fun a e _ => bxx a e⟩, bxx, _, env', ndn, fun a m => kk a (pin a ?_)⟩
      · refine hk a o (fun e => ?_) (O.st.hh a o z nb)
        subst e; rw [bp.1] at z; cases z
      · obtain ⟨o', z'⟩ := O.st.dm a o z
        by_cases e : a = p
        · subst e; exact ⟨_, upd_same⟩
        · exact ⟨o', hk a o' e z'⟩
      · rcases List.mem_append.mp m with m | m
        · exact .inl m
        · rcases List.mem_append.mp m with m | m
          · rcases List.mem_cons.mp m with m | m
            · subst m; exact .inr (.inl (.head _))
            · rcases List.mem_append.mp m with m | m
              · exact .inr (.inl (.tail _ m))
              · exact .inr (.inr (.inr m))
          · exact .inr (.inr (.inl m))
    have hlt : i < (env.set j none).length := (List.getElem?_eq_some_iff.mp e1').1
    have OL : OkL K b F0 H0 F H' σ ((env.set j none).set i (some (.vl (ts ++ [.vk es])))) i j := ⟨On, ⟨ts, .vk es, by rw [List.getElem?_set_self hlt]⟩, p, vs, a0, k1, upd_same, g1⟩
    refine ⟨_, k1, .inl ⟨rfl, _, SqL.of y1⟩, _, g1, p, vs, .ref a0, rfl, rfl, y1, by rw [y2.length]; exact Nat.lt_of_le_of_lt hl (by decide), ?_⟩
    exact h _ _ _ _ _ _ _ OL E h0 D fun F' H' σ' env' s' O' e' => q.nx F' H' σ' env' s' O'.ok e'
end
end Pw
namespace Pw
open PySem PySem.Spec PyProof.Rows L2
local macro_rules | `(tactic| walk_at "pw") => `(tactic| simp only [wV, wC, wOp, wUn, wTest, wAnd, wOr, wNot, wTru, wIf, wNil, wCons, wTup, wLst, wFz, wNw, wDk, wDt, wCB, wM, wM1, wCall, wGet2, wSl, wSo, wNo, wRev, wItS, wRg1, wRg2, wRg3, wEnum, wLc, wDc, wDisp, wPairs, wYes, sNext, sSeq, sAsg, sNew, sAsgT, sFrz, sDrop, sRet, sRetV, sRetN, sIf, sFor, sAugI, sApp, sSet, sSet2, sApp2, sDAug, sAppPop, sSdApp, sExt, sNever, setT_nm, setT_tp, setTs_nil, setTs_cons, T.it?, T.il?, plainL, startE, wipeE, List.map_cons, List.map_nil, List.length_cons, List.length_nil, List.replicate_succ, List.replicate_zero, List.cons_append, List.nil_append, List.append_nil, List.getElem?_cons_zero, List.getElem?_cons_succ, List.set_cons_zero, List.set_cons_succ, Option.some.injEq, T.st.injEq, T.vl.injEq, T.vk.injEq, D.tup.injEq, D.lst.injEq, D.int.injEq, D.str.injEq, D.bl.injEq, List.cons.injEq, exists_eq', exists_eq, Int.toNat_natCast, rng_eq, List.length_map, List.length_range, exists_eq_left', exists_eq_left, exists_and_left, and_true, true_and, Option.bind_some, Option.map_some, fGet_tup, fGet_lst, fGet_vl, fGet_str, fGet_dk, fGet_vk, fII_st, fAdd_int, fAdd_str, fAdd_lst, fAdd_lv, fEqA_int, fEqA_str, fNotN_non, fNotN_int, fIsN_non, fIsN_int, fLen_lst, fLen_tup, fLen_vl, fLen_str, dl_strN, dl_lst, reduceCtorEq, false_and, and_false, exists_false, false_or, or_false, fInt_int, fInt_bl, fTuple_lst, fTuple_vl, fTuple_tup, fList_tup, fList_lst, fMax_2, fMax_3, fMin_2, atI_0, atI_1, atI_2, atI_3, atI_4, erase_st, decide_eq_true_eq, Bool.false_eq_true, if_true, if_false, take_iff, isD_vk, isD_dk, gV, gD, pV, posV, sz_vk, sz_vl, kK_str, ch_vk, ch_vl, setCh_vk, setCh_vl, atI_tab, Option.getD_some, Option.getD_none, posL, putL_vl, gDt, ite_true, ite_false])

theorem so_ifN {K : PySem.W.Frag} {tt : TT} {wt : TW} {ta tb : TE} {wa wb : EW} (h : SoT K tt wt) (h1 : SoN K ta wa) (h2 : SoN K tb wb) : SoN K (tIf tt ta tb) (wIf wt wa wb) := fun b F0 H0 F H σ env O Q' h0 Q q =>
  h _ _ _ _ _ _ _ O _ h0 _ fun c F1 H1 S1 h3 => by
    have nw : ∀ (f : List Addr), (∀ a ∈ f, H1 a = none) → ∀ a ∈ f, H a = none := fun f z a m => by
      cases e : H a with
      | none => rfl
      | some o =>
        obtain ⟨o', e'⟩ := S1.dm a o e
        rw [z a m] at e'; cases e'
    cases c with
    | true => exact h1 _ _ _ _ _ _ _ (O.step S1) _ h3 _ fun v t f F2 H2 S2 r2 n2 new h4 => q v t f F2 H2 (S1.trans S2) r2 n2 (nw f new) h4
    | false => exact h2 _ _ _ _ _ _ _ (O.step S1) _ h3 _ fun v t f F2 H2 S2 r2 n2 new h4 => q v t f F2 H2 (S1.trans S2) r2 n2 (nw f new) h4
def ways2 : SW := (sFor (wItS (wV 4)) (.tp ((.nm 10) :: ((.nm 11) :: ((.nm 12) :: ((.nm 13) :: []))))) (sIf (wAnd (wTest (wOp fLe (wV 13) (wV 7))) (wTest (wOp (fInA false) (wV 11) (wOp fGet (wV 6) (wOp fSub (wV 7) (wV 13))))))
  (sSeq (sAsg 14 (wOp fAdd (wOp fGet (wOp fGet (wV 6) (wOp fSub (wV 7) (wV 13))) (wV 11)) (wOp fGet (wV 5) (wV 11)))) (sIf (wTest (wOp fGt (wV 14) (wGetL 6 (wV 12) (wUn fNeg (wC (.int 1)))))) (sSetL 6 (wV 12) (wV 14)) sNext)) sNext))
def w_greatest_ways : SW := (sSeq (sAsg 4 (wCall sp_ties_of (wCons (wV 0) wNil))) (sSeq (sAsg 5 (wCall sp_times_of (wCons (wV 0) wNil))) (sSeq (sNew 6 (wLst wNil))
  (sSeq (sFor (wRg1 (wCons (wV 3) wNil)) (.nm 7) (sSeq (sNew 8 (wIf (wTest (wOp fEqA (wV 7) (wC (.int 0)))) (wDisp [(wV 1, wC (.int 0))]) wDk)) (sMove 6 8 (sFor (wRg1 (wCons (wCB fLen (wCons (wOp fGet (wV 0) (wC (.int 0))) wNil)) wNil)) (.nm 9) ways2))))
  (sFrz 6 (sRet (wFz (wLc (wItS (wV 6)) (.nm 8) wYes (wNw (wGet2 (wV 8) (wV 2) (wC .non))) [8]))))))))
theorem look_putL {κ : Type} [DecidableEq κ] {es : List (κ × T)} {k k' : κ} {u : T} : look (putL es k u) k' = if k' = k then some u else look es k' := by
  unfold putL
  by_cases h : (es.any fun kv => decide (kv.1 = k)) = true
  · rw [if_pos h]
    induction es with
    | nil => simp at h
    | cons e es ih =>
      unfold look at ih ⊢
      rw [List.map_cons, List.find?_cons, List.find?_cons]
      by_cases e1 : e.1 = k
      · simp only [e1, if_true]
        by_cases e2 : k = k'
        · subst e2; simp
        · simp only [e2, decide_false]
          rw [if_neg (Ne.symm e2)]
          by_cases h2 : (es.any fun kv => decide (kv.1 = k)) = true
          · rw [ih h2, if_neg (Ne.symm e2)]
          · have : es.map (fun kv => if kv.1 = k then (kv.1, u) else kv) = es := by
              rw [List.map_congr_left (g := id)]
              · simp
              · intro x hx
                rw [if_neg]; rfl
                intro z
                exact h2 (List.any_eq_true.mpr ⟨x, hx, by simpa using z⟩)
            rw [this]
      · simp only [e1, if_false]
        have h2 : (es.any fun kv => decide (kv.1 = k)) = true := by simpa [e1] using h
        by_cases e2 : e.1 = k'
        · simp only [e2, decide_true]
          rw [if_neg (fun z => e1 (by rw [e2, z]))]
        · simp only [e2, decide_false]
          exact ih h2
  · rw [if_neg h]
    refine look_snoc ?_
    unfold look
    rw [Option.map_eq_none_iff, List.find?_eq_none]
    intro x hx z
    exact h (List.any_eq_true.mpr ⟨x, hx, z⟩)
theorem putL_len {κ : Type} [DecidableEq κ] {es : List (κ × T)} {k : κ} {u : T} : (putL es k u).length ≤ es.length + 1 := by
  unfold putL
  split <;> simp
theorem fIn_vk {es : List (Key × T)} {x : Str} {Q : T → Prop} (q : Q (.st (.bl (look es (.inr x)).isSome))) : fInA false (.st (.str x)) (.vk es) Q := .inr ⟨_, _, rfl, rfl, q⟩
theorem walk_nonneg {w : Wk} (h : w.Ok) {x y : Str} {c : Nat} {s : Int} (hw : Walk w x y c s) : 0 ≤ s := by
  induction hw with
  | nil => exact Int.le_refl _
  | @cons t y c s ht _ ih =>
    have : 0 ≤ w.time t.start := by
      obtain ⟨m, hm, e⟩ := List.mem_map.mp (h.tie ht).1
      rw [← e, Wk.time_of h hm]
      exact h.tm m hm
    omega
/-- a layer: a dict of the longest walks -/
def Lay (es : List (Key × T)) (h : Str → Option Int) : Prop := ∀ y : Str, look es (.inr y) = (h y).map fun v => T.st (.int v)
structure LayOk (w : Wk) (a : Str) (c : Nat) (t : T) (g : Str → Option Int) : Prop where
  tree : ∃ es, t = .vk es ∧ Lay es g
  gr : ∀ y, IsGr w a y c (g y)
/-- while a layer is made: after s sweeps and the ties of pre -/
structure Mid (w : Wk) (ord : List Str) (a : Str) (c s : Nat) (pre : List Ti) (h : Str → Option Int) : Prop where
  sound : ∀ y v, h y = some v → Walk w a y c v
  base : c = 0 → ∃ v, h a = some v ∧ 0 ≤ v
  full : ∀ y ∈ w.names, ixOf ord y < s → ∀ u, Walk w a y c u → ∃ v, h y = some v ∧ u ≤ v
  rel : ∀ t ∈ pre, ixOf ord t.goal ≤ s → ∀ c' u, c' + t.count.toNat = c → Walk w a t.start c' u → ∃ v, h t.goal = some v ∧ u + w.time t.start ≤ v
theorem Mid.next {w : Wk} {ord : List Str} {a : Str} {c s : Nat} {h : Str → Option Int} (M : Mid w ord a c s w.ties h) : Mid w ord a c (s + 1) [] h where
  sound := M.sound
  base := M.base
  full := by
    intro y hy hs u hu
    rcases hu.last with ⟨e1, e2, e3⟩ | ⟨t, ht, e1, c', u', h1, e2, e3⟩
    · obtain ⟨v, h2, h3⟩ := M.base e2
      subst e1
      exact ⟨v, h2, by omega⟩
    · obtain ⟨v, h2, h3⟩ := M.rel t ht (by rw [e1]; omega) c' u' e2.symm h1
      exact ⟨v, by rw [← e1]; exact h2, by omega⟩
  rel := by intro t ht; cases ht
theorem Mid.done {w : Wk} (hw : w.Ok) {ord : List Str} (ho : ord.Perm w.names) {a : Str} (ha : a ∈ w.names) {c s : Nat} {h : Str → Option Int} (M : Mid w ord a c s [] h) (hs : w.names.length ≤ s) : ∀ y, IsGr w a y c (h y) := by
  intro y
  have cm : ∀ u, Walk w a y c u → ∃ v, h y = some v ∧ u ≤ v := by
    intro u hu
    have hy : y ∈ w.names := by
      rcases hu.mem hw with e | e
      · rw [← e]; exact ha
      · exact e.2
    refine M.full y hy ?_ u hu
    have := ixOf_lt (ho.mem_iff.mpr hy)
    have := ho.length_eq
    omega
  cases e : h y with
  | none =>
    intro u hu
    obtain ⟨v, h1, _⟩ := cm u hu
    rw [e] at h1; cases h1
  | some v =>
    refine ⟨M.sound y v e, fun u hu => ?_⟩
    obtain ⟨v', h1, h2⟩ := cm u hu
    rw [e] at h1; cases h1; exact h2
/-- one tie more, nothing to be set -/
theorem Mid.keep {w : Wk} {ord : List Str} {a : Str} {c s : Nat} {pre : List Ti} {h : Str → Option Int} (M : Mid w ord a c s pre h) {t : Ti} (ok : ixOf ord t.goal ≤ s → ∀ c' u, c' + t.count.toNat = c → Walk w a t.start c' u → ∃ v, h t.goal = some v ∧ u + w.time t.start ≤ v) : Mid w ord a c s (pre ++ [t]) h where
  sound := M.sound
  base := M.base
  full := M.full
  rel := by
    intro t' ht'
    rcases List.mem_append.mp ht' with h1 | h1
    · exact M.rel t' h1
    · rw [List.mem_singleton.mp h1]; exact ok
/-- a longer walk is found -/
theorem Mid.set {w : Wk} {ord : List Str} {a : Str} {c s : Nat} {pre : List Ti} {h : Str → Option Int} (M : Mid w ord a c s pre h) {x : Str} {v : Int} (hv : Walk w a x c v) (up : ∀ u, h x = some u → u ≤ v) : Mid w ord a c s pre (fun y => if y = x then some v else h y) where
  sound := by
    intro y u e
    by_cases q : y = x
    · subst q; simp at e; subst e; exact hv
    · rw [if_neg q] at e; exact M.sound y u e
  base := by
    intro e
    obtain ⟨u, h1, h2⟩ := M.base e
    by_cases q : a = x
    · subst q; exact ⟨v, by simp, by have := up u h1; omega⟩
    · exact ⟨u, by rw [if_neg q]; exact h1, h2⟩
  full := by
    intro y hy hs u hu
    obtain ⟨z, h1, h2⟩ := M.full y hy hs u hu
    by_cases q : y = x
    · subst q; exact ⟨v, by simp, by have := up z h1; omega⟩
    · exact ⟨z, by rw [if_neg q]; exact h1, h2⟩
  rel := by
    intro t ht hs c' u e hu
    obtain ⟨z, h1, h2⟩ := M.rel t ht hs c' u e hu
    by_cases q : t.goal = x
    · exact ⟨v, by rw [if_pos q], by have := up z (by rw [← q]; exact h1); omega⟩
    · exact ⟨z, by rw [if_neg q]; exact h1, h2⟩
theorem ways2_ok {w : Wk} {ord : List Str} {a bb : Str} {many c s L : Nat} {ts : List T} {es : List (Key × T)} {h : Str → Option Int} {E : EndsW} {j9 j10 j11 j12 j13 j14 : Option T} (hw : w.Ok) (ho : ord.Perm w.names) (top : ∀ t ∈ w.ties, t.count = 0 → ixOf ord t.start < ixOf ord t.goal)
    (hl : ts.length = c) (hp : ∀ k (hk : k < ts.length), ∃ g, LayOk w a k ts[k] g) (he : Lay es h) (M : Mid w ord a c s [] h) (hL : es.length ≤ L) (hL2 : L ≤ 90000)
    (q : ∀ es' h', Lay es' h' → Mid w ord a c s w.ties h' → es'.length ≤ L + w.ties.length → ∀ j10 j11 j12 j13 j14, E.nx [some (.st (enc w)), some (.st (.str a)), some (.st (.str bb)), some (.st (.int many)), some (.st (.lst (w.ties.map encT))), some (.st (encTimes w)), some (.vl (ts ++ [.vk es'])), some (.st (.int c)), none, j9, j10, j11, j12, j13, j14]) :
    ways2 E [some (.st (enc w)), some (.st (.str a)), some (.st (.str bb)), some (.st (.int many)), some (.st (.lst (w.ties.map encT))), some (.st (encTimes w)), some (.vl (ts ++ [.vk es])), some (.st (.int c)), none, j9, j10, j11, j12, j13, j14] := by
  have tl := hw.tie_len
  unfold ways2
  walk_at "pw"
  refine forW_inv encT (fun pre env => ∃ (es : List (Key × T)) (h : Str → Option Int) (j10 j11 j12 j13 j14 : Option T), env = [some (.st (enc w)), some (.st (.str a)), some (.st (.str bb)), some (.st (.int many)), some (.st (.lst (w.ties.map encT))), some (.st (encTimes w)), some (.vl (ts ++ [.vk es])), some (.st (.int c)), none, j9, j10, j11, j12, j13, j14] ∧ Lay es h ∧ Mid w ord a c s pre h ∧ es.length ≤ L + pre.length) ⟨es, h, _, _, _, _, _, rfl, he, M, by simpa using hL⟩ ?_ ?_
  · rintro pre t post env N e ⟨es, h, j10, j11, j12, j13, j14, rfl, he, M, hL⟩ hN
    have ht : t ∈ w.ties := by rw [e]; simp
    have h0 := hw.cnt t ht
    have hs := (hw.tie ht).1
    have hpl : pre.length ≤ 200 := by have := congrArg List.length e; simp at this; omega
    have keep : (ixOf ord t.goal ≤ s → ∀ c' u, c' + t.count.toNat = c → Walk w a t.start c' u → ∃ v, h t.goal = some v ∧ u + w.time t.start ≤ v) → ∀ j10 j11 j12 j13 j14, N [some (.st (enc w)), some (.st (.str a)), some (.st (.str bb)), some (.st (.int many)), some (.st (.lst (w.ties.map encT))), some (.st (encTimes w)), some (.vl (ts ++ [.vk es])), some (.st (.int c)), none, j9, j10, j11, j12, j13, j14] := fun ok j10 j11 j12 j13 j14 =>
      hN _ ⟨es, h, _, _, _, _, _, rfl, he, M.keep ok, by simp; omega⟩
    rw [encT_eq]
    walk_at "pw"
    by_cases hc : t.count ≤ (c : Int)
    · rw [if_pos hc]
      -- the layer that is looked at
      obtain ⟨k, hk⟩ : ∃ k : Nat, k + t.count.toNat = c := ⟨c - t.count.toNat, by omega⟩
      have ek : (c : Int) - t.count = (k : Int) := by omega
      rw [ek]
      obtain ⟨es2, g2, hat, hlay, hsnd, hfull⟩ : ∃ es2 g2, (ts ++ [T.vk es])[k]? = some (.vk es2) ∧ Lay es2 g2 ∧ (∀ v, g2 t.start = some v → Walk w a t.start k v) ∧ (ixOf ord t.goal ≤ s → ∀ u, Walk w a t.start k u → ∃ v, g2 t.start = some v ∧ u ≤ v) := by
        by_cases hkc : k < ts.length
        · obtain ⟨g, ⟨es2, e1, e2⟩, e3⟩ := hp k hkc
          refine ⟨es2, g, by rw [List.getElem?_append_left hkc, List.getElem?_eq_getElem hkc, e1], e2, fun v hv => ?_, fun _ u hu => ?_⟩
          · have := e3 t.start
            rw [hv] at this
            exact this.1
          · have := e3 t.start
            cases e4 : g t.start with
            | none => rw [e4] at this; exact absurd hu (this u)
            | some v => rw [e4] at this; exact ⟨v, rfl, this.2 u hu⟩
        · have : k = c := by omega
          subst this
          refine ⟨es, h, by rw [List.getElem?_append_right (by omega)]; simp [hl], he, fun v hv => M.sound _ v hv, fun hr u hu => ?_⟩
          have := top t ht (by omega)
          exact M.full _ hs (by omega) u hu
      rw [atI_get, hat]
      refine ⟨_, rfl, fIn_vk ⟨_, rfl, ?_⟩⟩
      rw [hlay t.start]
      cases eg : g2 t.start with
      | none =>
        rw [if_neg (by simp)]
        refine keep (fun hr c' u e1 hu => ?_) _ _ _ _ _
        have : c' = k := by omega
        subst this
        obtain ⟨v, h1, _⟩ := hfull hr u hu
        rw [eg] at h1; cases h1
      | some v =>
        rw [if_pos (by simp)]
        have hwv := hsnd v eg
        have nv := walk_nonneg hw hwv
        have nt : 0 ≤ w.time t.start := by
          obtain ⟨m, hm, e⟩ := List.mem_map.mp hs
          rw [← e, Wk.time_of hw hm]
          exact hw.tm m hm
        refine ⟨_, rfl, ?_⟩
        rw [fGet_vk]
        refine ⟨_, _, rfl, by rw [hlay t.start, eg]; rfl, ?_⟩
        unfold encTimes
        rw [fGet_dk]
        refine ⟨_, _, rfl, look_times hw hs, ?_⟩
        walk_at "pw"
        refine ⟨ts, es, rfl, _, rfl, 1, rfl, .str t.goal, look es (.inr t.goal), rfl, rfl, ?_⟩
        rw [he t.goal]
        have hnw : Walk w a t.goal c (v + w.time t.start) := hwv.snoc ht rfl hk.symm rfl
        have dec : ∀ o : Option Int, h t.goal = o → fGt (.st (.int (v + w.time t.start))) ((o.map fun v => T.st (.int v)).getD (.st (.int (-1)))) fun t_1 => ∃ c_1, t_1 = .st (.bl c_1) ∧ (c_1 = true → (∀ u, h t.goal = some u → u ≤ v + w.time t.start)) ∧ (c_1 = false → ∃ u, h t.goal = some u ∧ v + w.time t.start ≤ u) := by
          intro o ho
          cases o with
          | none =>
            refine ⟨_, _, rfl, rfl, trivial, _, rfl, fun _ u hu => ?_, fun hf => ?_⟩
            · rw [ho] at hu; cases hu
            · simp at hf; omega
          | some z =>
            refine ⟨_, _, rfl, rfl, trivial, _, rfl, fun hf u hu => ?_, fun hf => ⟨z, ho, ?_⟩⟩
            · rw [ho] at hu; cases hu
              simp at hf; omega
            · simp at hf; omega
        obtain ⟨i1, i2, e1, e2, _, c1, e3, d1, d2⟩ := dec _ rfl
        refine ⟨i1, i2, e1, e2, trivial, c1, e3, ?_⟩
        cases c1 with
        | true =>
          rw [if_pos rfl]
          unfold sSetL
          refine ⟨_, rfl, _, rfl, ts, es, rfl, _, _, _, rfl, rfl, by omega, rfl, ?_⟩
          refine hN _ ⟨_, fun y => if y = t.goal then some (v + w.time t.start) else h y, _, _, _, _, _, rfl, fun y => ?_, ?_, ?_⟩
          · rw [look_putL]
            by_cases q : y = t.goal
            · subst q; simp
            · have ne : (Sum.inr y : Key) ≠ .inr t.goal := fun z => q (Sum.inr.inj z)
              rw [if_neg ne]
              show look es (.inr y) = Option.map _ (if y = t.goal then _ else h y)
              rw [if_neg q]
              exact he y
          · refine (M.set hnw (d1 rfl)).keep fun hr c' u e1 hu => ⟨v + w.time t.start, by simp, ?_⟩
            have : c' = k := by omega
            subst this
            obtain ⟨z, z1, z2⟩ := hfull hr u hu
            rw [eg] at z1; cases z1
            omega
          · have := putL_len (es := es) (k := (Sum.inr t.goal : Key)) (u := T.st (.int (v + w.time t.start)))
            simp
            omega
        | false =>
          rw [if_neg (by simp)]
          refine keep (fun hr c' u e1 hu => ?_) _ _ _ _ _
          have : c' = k := by omega
          subst this
          obtain ⟨z, z1, z2⟩ := hfull hr u hu
          rw [eg] at z1; cases z1
          obtain ⟨z3, z4, z5⟩ := d2 rfl
          exact ⟨z3, z4, by omega⟩
    · rw [if_neg hc]
      exact keep (fun _ c' u e1 _ => by omega) _ _ _ _ _
  · rintro env ⟨es, h, j10, j11, j12, j13, j14, rfl, he, M, hL⟩
    exact q es h he M hL _ _ _ _ _
theorem p_greatest_ways : ∀ ds R, sp_greatest_ways ds R → w_greatest_ways { nx := fun _ => R .non, rt := R } (startE 15 ds) := by
  rintro ds R ⟨w, a, bb, many, rfl, hw, he, ha, hb, hmany, q⟩
  obtain ⟨ord, ho, top⟩ := he
  have nl := hw.nlen
  have tl := hw.tie_len
  unfold w_greatest_ways
  walk_at "pw"
  refine ⟨w, rfl, hw, ?_⟩
  refine ⟨w, rfl, hw, ?_⟩
  refine ⟨by omega, by omega, by omega, ?_⟩
  refine forW_rng (fun c env => ∃ (ES : Nat → List (Key × T)) (G : Nat → Str → Option Int) (j7 j9 j10 j11 j12 j13 j14 : Option T), env = [some (.st (enc w)), some (.st (.str a)), some (.st (.str bb)), some (.st (.int many)), some (.st (.lst (w.ties.map encT))), some (.st (encTimes w)), some (.vl ((List.range c).map fun k => .vk (ES k))), j7, none, j9, j10, j11, j12, j13, j14] ∧ ∀ k, k < c → Lay (ES k) (G k) ∧ ∀ y, IsGr w a y k (G k y)) ⟨fun _ => [], fun _ _ => none, _, _, _, _, _, _, _, rfl, fun k hk => absurd hk (by omega)⟩ ?_ ?_
  · rintro c env N hc ⟨ES, G, j7, j9, j10, j11, j12, j13, j14, rfl, hG⟩ hN
    have main : ∀ (es : List (Key × T)) (h : Str → Option Int) (E : EndsW), E.nx = N → Lay es h → Mid w ord a c 0 [] h → es.length ≤ 1 → sMove 6 8 (sFor (wRg1 (wCons (wCB fLen (wCons (wOp fGet (wV 0) (wC (.int 0))) wNil)) wNil)) (.nm 9) ways2) E [some (.st (enc w)), some (.st (.str a)), some (.st (.str bb)), some (.st (.int many)), some (.st (.lst (w.ties.map encT))), some (.st (encTimes w)), some (.vl ((List.range c).map fun k => .vk (ES k))), some (.st (.int c)), some (.vk es), j9, j10, j11, j12, j13, j14] := by
      intro es h E hE hl M hes
      unfold sMove enc
      refine ⟨_, es, rfl, rfl, by rw [List.length_map, List.length_range]; omega, ?_⟩
      walk_at "pw"
      have ml : w.ms.length = w.names.length := by unfold Wk.names; rw [List.length_map]
      refine ⟨by omega, by omega, ?_⟩
      refine forW_rng (fun s env => ∃ (es : List (Key × T)) (h : Str → Option Int) (j9 j10 j11 j12 j13 j14 : Option T), env = [some (.st (enc w)), some (.st (.str a)), some (.st (.str bb)), some (.st (.int many)), some (.st (.lst (w.ties.map encT))), some (.st (encTimes w)), some (.vl (((List.range c).map fun k => .vk (ES k)) ++ [.vk es])), some (.st (.int c)), none, j9, j10, j11, j12, j13, j14] ∧ Lay es h ∧ Mid w ord a c s [] h ∧ es.length ≤ 1 + s * 200) ⟨es, h, _, _, _, _, _, _, rfl, hl, M, by omega⟩ ?_ ?_
      · rintro s env N2 hs ⟨es, h, j9, j10, j11, j12, j13, j14, rfl, hl, M, hL⟩ hN2
        refine ⟨_, setT_nm _ _ _, ?_⟩
        refine ways2_ok (many := many) (L := 1 + s * 200) hw ho top (by rw [List.length_map, List.length_range]) (fun k hk => ?_) hl M hL (by omega) fun es' h' hl' M' hL' j10 j11 j12 j13 j14 => hN2 _ ⟨es', h', _, _, _, _, _, _, rfl, hl', M'.next, by omega⟩
        have hk' : k < c := by simpa using hk
        refine ⟨G k, ⟨ES k, by simp, (hG k hk').1⟩, (hG k hk').2⟩
      · rintro env ⟨es, h, j9, j10, j11, j12, j13, j14, rfl, hl, M, hL⟩
        rw [hE]
        have gr := M.done hw ho ha (by omega)
        have e : (((List.range c).map fun k => T.vk (ES k)) ++ [T.vk es]) = (List.range (c + 1)).map fun k => T.vk (updN ES c es k) := by
          rw [List.range_succ, List.map_append]
          congr 1
          · refine List.map_congr_left fun j hj => ?_
            rw [updN_ne]
            have : j < c := by simpa using hj
            omega
          · simp
        rw [e]
        refine hN _ ⟨updN ES c es, updN G c h, _, _, _, _, _, _, _, rfl, fun k hk => ?_⟩
        by_cases q : k = c
        · subst q; rw [updN_same, updN_same]; exact ⟨hl, gr⟩
        · rw [updN_ne q, updN_ne q]; exact hG k (by omega)
    refine ⟨_, setT_nm _ _ _, ?_⟩
    unfold sSeq sNew
    walk_at "pw"
    split
    · rename_i h0
      have c0 : c = 0 := by omega
      refine ⟨[(.inr a, .int 0)], rfl, ?_, by simp, ?_⟩
      · intro i k x hi
        match i with
        | 0 => simp at hi; obtain ⟨rfl, rfl⟩ := hi; exact ⟨_, rfl, rfl⟩
        | i + 1 => simp at hi
      · have em : mergeT [((.inr a : Key), D.int 0)] = [(.inr a, .st (.int 0))] := by
          unfold mergeT
          simp only [List.foldl_cons, List.foldl_nil]
          unfold putL; simp
        rw [em]
        refine main _ (fun y => if y = a then some 0 else none) _ rfl (fun y => ?_) ⟨?_, ?_, ?_, ?_⟩ (by simp)
        · by_cases q : y = a
          · subst q; simp [look]
          · have ne : (Sum.inr a : Key) ≠ .inr y := fun z => q (Sum.inr.inj z).symm
            simp [look, q, Ne.symm q]
        · intro y v hv
          by_cases q : y = a
          · subst q; simp at hv; subst hv; rw [c0]; exact .nil _
          · rw [if_neg q] at hv; cases hv
        · intro _; exact ⟨0, by simp, by omega⟩
        · intro y hy hs; omega
        · intro t ht; cases ht
    · rename_i h0
      refine main [] (fun _ => none) _ rfl (fun y => by simp [look]) ⟨?_, ?_, ?_, ?_⟩ (by simp)
      · intro y v hv; cases hv
      · intro e; omega
      · intro y hy hs; omega
      · intro t ht; cases ht
  · rintro env ⟨ES, G, j7, j9, j10, j11, j12, j13, j14, rfl, hG⟩
    walk_at "pw"
    have e : (T.vl ((List.range many).map fun k => T.vk (ES k))).erase = .lst ((List.range many).map fun k => .dk (eraseK (ES k))) := by
      simp only [T.erase, erases_map, List.map_map]
      congr 1
    simp only [e]
    walk_at "pw"
    refine ⟨by omega, compW_map (fun k => D.dk (eraseK (ES k))) (fun k => .st (encR (G k bb))) (fun k hk R hR => ?_) ?_⟩
    · have hk : k < many := by simpa using hk
      walk_at "pw"
      rw [look_eraseK, (hG k hk).1 bb]
      cases eg : G k bb with
      | none =>
        rw [eg] at hR
        exact ⟨_, rfl, hR⟩
      | some v =>
        rw [eg] at hR
        exact ⟨.int v, by simp, hR⟩
    · rw [erase_vl (f := fun k => encR (G k bb))]
      exact q (fun c => G c bb) fun c hc => (hG c hc).2 bb
end Pw
namespace Pw
open PySem PySem.Spec PyProof.Rows L2
/-! ### dict comprehensions whose keys are tuples -/
theorem dictSet_tup {Y : Cx} {pins : List (Addr × Obj)} {σ : L2.St} {H : Hp} {s : Shared} {E : Value → Shared → Prop} {D b : Addr} {kvs : List (List Key × V)} {k : List Key} {v : V} {r : Value} {Q : Unit → Shared → Prop} (hu : Y.A.units + 64 < cLine) (I : Inv Y pins σ H s) (hD : H D = some (.dT kvs)) (hz : kvs.length < sizeLine)
    (hb : H b = some (.tup (k.map kV))) (rv : RelV v r) (q : ∀ s', Inv Y pins σ (upd H D (.dT (putK kvs k v))) s' → Q () s') : wpAny (model Y.prog Y.w) Y.A (dictSet D (.ref b) r) Q E s := by
  obtain ⟨z1, z2, xs, rel, dd⟩ := dt_of I.hok hD
  have lx : xs.length ≤ sizeLine := by have := Paired.length rel; omega
  have lp : (putK kvs k v).length ≤ sizeLine := by have := length_putK kvs k v; omega
  have room : (tupleKind (mixKind Y.prog Y.w)).room Y.A := by
    show Y.A.units < cLine
    omega
  refine wpAny_dictSet_heap (hsz := lx) room (key_of I.hok hb) dd fun hp dd' sb => q _ ?_
  obtain ⟨o, es, ep, o1, o2, o3, o4, _, o5⟩ := dd'
  have kp : ∀ c ys, H c = some (.tup ys) → upd H D (.dT (putK kvs k v)) c = some (.tup ys) := fun c ys ec => by
    rw [upd_ne (ne_of ec hD fun z => nomatch z)]
    exact ec
  exact d_write I (by rw [hD]; trivial) sb ⟨o, o1⟩ ⟨lp, z2, _, (rel.put k hb rv).keeps kp, o, es, ep, o1, o2, o3, o4, o5⟩
abbrev KSt := V → V → Hp → Addr → (Hp → Prop) → Prop
/-- y is the key, z the value; D the dict -/
def stT : KSt := fun y z H D N => ∃ kvs k b, y = .ref b ∧ H b = some (.tup (k.map kV)) ∧ H D = some (.dT kvs) ∧ kvs.length < sizeLine ∧ N (upd H D (.dT (putK kvs k z)))
def tDcT (wi : TI) (g : TG) (tt : TT) (tk tv : TE) (vs : List Nat) : TE := fun σ H Q => wi σ H fun J H1 => ∀ D, H1 D = none → ∃ W : Nat → Nat → Hp → Prop, (∃ m, W 0 m (upd H1 D (.dT []))) ∧ ∀ i m H, W i m H →
  (J.stop i H ∧ Q (.ref D) H) ∨ J.go i H ∧ ∃ N : Hp → Prop, (∀ H', N H' → ∃ m', m' < m ∧ W (i + 1) m' H') ∧
    ∀ x H', J.yld i H x H' → g x (L2.wipe σ vs) H' fun σ2 H2 => L2.wipe σ2 vs = L2.wipe σ vs ∧ tt σ2 H2 fun c H3 => if c = true then tk σ2 H3 fun y H4 => tv σ2 H4 fun z H5 => stT y z H5 D N else N H3
section
variable {X : Cx} {kx vx tg iter : Expr} {ifs : List Expr} {scope : Scope} {own : List (Str × Nat)} {pos : Pos} {wi : TI} {g : TG} {tt : TT} {tk tv : TE}
theorem dcT_core {pins : List (Addr × Obj)} {s0 : Shared} {σ : L2.St} {H : Hp} {Q : VK} {pos' : Pos} {use : Option (Value → Sem Unit)} {Qf : Value → Shared → Prop} (hc : X.calm = true) (hu : X.A.units + 64 < cLine) (hN : X.N.Nodup) (I0 : Inv X pins σ H s0) (hi : PI X tg iter wi) (ok : BlkOk X.N X.env.scope scope own)
    (hg : Blk X scope fun Y => PG Y tg g) (ht : Blk X scope fun Y => PTs Y ifs tt) (hk : Blk X scope fun Y => PE Y kx tk) (hv : Blk X scope fun Y => PE Y vx tv) (hs : ∀ x, foldedSetIterable iter X.env x = pure x)
    (h0 : tDcT wi g tt tk tv (own.map (·.2)) σ H Q) (fin : ∀ D C s' m H', Inv X pins σ H' s' → Q (.ref D) H' → s'.heap.Ns C m → FpOk X pins H' C → compPost (model X.prog X.w) X.A X.xe use Qf (.ref D) C (.ok .next) s') :
    wpAny (model X.prog X.w) X.A (comprehension (.DictComp kx vx [⟨tg, iter, ifs, 0⟩] scope pos) scope X.env pos' newDict false (eval iter X.env) use) Qf X.xe s0 := by
  have fr : ∀ y ∈ scope.names, y.2 = .free → ∃ c, X.env.cells.lookup y.1 = some c := by
    intro y hy e
    have := ok.free y hy e
    exact I0.ok.has _ this
  have un : ∀ x ∈ scope.names, x.2 = .local → scope.names.lookup x.1 = some .local := fun x hx e => e ▸ ok.uniq x hx
  refine wpAny_comprehension_free rfl hs (closure_ok fr) ok.kind un ?_
  refine thn (hi.run pins s0 σ H _ I0 h0) fun v1 s1 w1 => thn w1 fun v2 s2 w2 => ?_
  obtain ⟨it, fp, tn, J, H2, rfl, I2, T, t2, f2, w2⟩ := w2
  refine wpAny_newObj_type (newEnv_comp ?_)
  have big := I2.big
  obtain ⟨W, ⟨m0, w0⟩, turn⟩ := w2 s2.heap.objs.size (I2.hok.fresh (Nat.le_refl _))
  -- the dict, still empty
  have J3 : Inv X pins σ (upd H2 s2.heap.objs.size (.dT [])) { s2 with heap := s2.heap.push { cls := .type "dict", data := .dict #[] } } :=
    I2.laid (t' := s2.toks) (fun c o e => Heap.get?_push_of_some _ e) (Nat.le_refl _) (dt_empty s2.heap big)
  have low : ∀ c ∈ fp, c < s2.heap.objs.size := fun c m => let ⟨o, e, _⟩ := T.obj _ _ t2 c m; Heap.lt_size e
  generalize eD : s2.heap.objs.size = D at *
  generalize e3 : ({ s2 with heap := s2.heap.push { cls := .type "dict", data := .dict #[] } } : Shared) = s3 at *
  have hp3 : s3.heap = s2.heap.push { cls := .type "dict", data := .dict #[] } := by rw [← e3]
  have f3 : ∀ c ∈ fp, FpOk X pins (upd H2 D (.dT [])) c ∧ c < s3.heap.objs.size := by
    intro c m
    have lt := low c m
    have ne : c ≠ D := Nat.ne_of_lt lt
    refine ⟨⟨?_, (f2 c m).2⟩, ?_⟩
    · rw [upd_ne ne]; exact (f2 c m).1
    · rw [hp3, Heap.size_push, eD]; exact Nat.lt_succ_of_lt lt
  have t3 : tn 0 s3.heap := T.keep _ _ _ t2 fun c _ o e => by rw [hp3]; exact Heap.get?_push_of_some _ e
  generalize eH : upd H2 D (.dT []) = H3 at *
  have J4 := block_start J3 ok hN f3
  have q1 := hg s3 H3 s3.heap.objs.size (cellsFrom (s3.heap.objs.size + 1) scope.names (cloFrom X.env.cells scope.names [])) fp
  have q2 := ht s3 H3 s3.heap.objs.size (cellsFrom (s3.heap.objs.size + 1) scope.names (cloFrom X.env.cells scope.names [])) fp
  have q3 := hk s3 H3 s3.heap.objs.size (cellsFrom (s3.heap.objs.size + 1) scope.names (cloFrom X.env.cells scope.names [])) fp
  have q4 := hv s3 H3 s3.heap.objs.size (cellsFrom (s3.heap.objs.size + 1) scope.names (cloFrom X.env.cells scope.names [])) fp
  show codeAny _ _ (.compStart (.DictComp kx vx [⟨tg, iter, ifs, 0⟩] scope pos) 0 (.ref it) (.ref D) (compEnvC scope (cellsFrom (s3.heap.objs.size + 1) scope.names (cloFrom X.env.cells scope.names [])) s3.heap.objs.size X.env)) (compPost (model X.prog X.w) X.A X.xe use Qf (.ref D) s3.heap.objs.size) { s3 with heap := pushCells (s3.heap.push { cls := .type "dict", data := .dict #[] }) scope.names }
  generalize eE : compEnvC scope (cellsFrom (s3.heap.objs.size + 1) scope.names (cloFrom X.env.cells scope.names [])) s3.heap.objs.size X.env = env at J4 q1 q2 q3 q4 ⊢
  have locE : env.locals = s3.heap.objs.size := by rw [← eE]; rfl
  generalize e4 : ({ s3 with heap := pushCells (s3.heap.push { cls := .type "dict", data := .dict #[] }) scope.names } : Shared) = s4 at J4 ⊢
  have t4 : tn 0 s4.heap := T.keep _ _ _ t3 fun c _ o e => by
    rw [← e4]
    exact pushCells_keeps _ _ _ _ (Heap.get?_push_of_some _ e)
  have free3 : ∀ c ∈ fp, H3 c = none := fun c m => (f3 c m).1.1
  have stay : ∀ {σ' : L2.St} {H' : Hp} {s' : Shared}, Inv (X.blk s3 H3 scope env fp) [] σ' H' s' → (∀ c ∈ fp, H' c = none) → ∀ c ∈ fp, FpOk (X.blk s3 H3 scope env fp) [] H' c := by
    intro σ' H' s' K hn c m
    have ex := K.ok.exf c m
    exact ⟨hn c m, ex.1, K.ok.exfs c m, .inl m, ex.2, fun p hp => by cases hp⟩
  -- in the def again
  have back : ∀ {H' : Hp} {s' : Shared}, Inv (X.blk s3 H3 scope env fp) [] (L2.wipe σ (own.map (·.2))) H' s' → Q (.ref D) H' → compPost (model X.prog X.w) X.A X.xe use Qf (.ref D) s3.heap.objs.size (.ok .next) s' := by
    intro H' s' K hq
    have K2 : Inv X pins σ H' s' := J3.call' (ch := fp) K.os K.base K.hok K.bare fun c m => by
      obtain ⟨_, a1, _, a2, a3, a4⟩ := (f3 c m).1
      exact ⟨a2, a1, a3, a4⟩
    have nl : H' s3.heap.objs.size = none := by
      have := K.free
      rw [← locE]
      exact this
    obtain ⟨mm, hm, _⟩ := K.loc
    have hm : s'.heap.Ns env.locals mm := hm
    rw [locE] at hm
    exact fin D _ s' mm H' K2 hq hm (J3.fpOk (Nat.le_refl _) nl)
  have loop : codeAny (model X.prog X.w) X.A (.compLoop (.DictComp kx vx [⟨tg, iter, ifs, 0⟩] scope pos) 0 (.ref it) (.ref D) env) (compPost (model X.prog X.w) X.A X.xe use Qf (.ref D) s3.heap.objs.size) s4 := by
    refine compLoop_anyD (fun n s' => ∃ i H', Inv (X.blk s3 H3 scope env fp) [] (L2.wipe σ (own.map (·.2))) H' s' ∧ tn i s'.heap ∧ (∀ c ∈ fp, H' c = none) ∧ W i n H') ?_ m0 ⟨0, H3, J4, t4, free3, w0⟩
    rintro n sa ⟨i, Ha, Ja, ta, fa, wa⟩
    rcases turn i n Ha wa with ⟨hstop, hq⟩ | ⟨hgo, N, hN, step⟩
    · refine thnF (T.done (X.blk s3 H3 scope env fp) rfl rfl rfl hc i [] sa _ Ha _ Ja (stay Ja fa) ta hstop) fun r sb ⟨er, Jb⟩ => ?_
      subst er
      exact back Jb hq
    · refine thnF (T.item (X.blk s3 H3 scope env fp) rfl rfl rfl hc i [] sa _ Ha _ Ja (stay Ja fa) ta hgo) fun r sb ⟨u, er, wb⟩ => ?_
      subst er
      refine thnF wb fun _ sc ⟨x, Hc, Jc, rc, yc, tc, fc⟩ => ?_
      have pc := Jc.pinned (stay Jc fc) (T.obj _ _ tc)
      refine thnF (q1.run _ sc _ Hc x u _ pc rc (step x Hc yc)) fun _ sd ⟨σd, Hd, Jd, wd, pd⟩ => ?_
      refine thnF (q2.run _ sd σd Hd _ Jd pd) fun c se ⟨He, Je, pe⟩ => ?_
      -- the turn is done
      have turned : ∀ {s' : Shared} {H' : Hp}, Inv (X.blk s3 H3 scope env fp) ([] ++ pinsAt fp sc.heap) σd H' s' → N H' → ∃ m, m < n ∧ ∃ i H', Inv (X.blk s3 H3 scope env fp) [] (L2.wipe σ (own.map (·.2))) H' s' ∧ tn i s'.heap ∧ (∀ c ∈ fp, H' c = none) ∧ W i m H' := by
        intro s' H' K hn
        obtain ⟨m', lt, w'⟩ := hN H' hn
        have kept : ∀ c ∈ fp, ∀ o, sc.heap.get? c = some o → s'.heap.get? c = some o ∧ H' c = none := by
          intro c m o e
          have z := K.pin (c, o) (List.mem_append_right _ (List.mem_append_right _ (mem_pinsAt m e)))
          exact ⟨z.1, z.2.1⟩
        have ll : (L2.wipe σ (own.map (·.2))).length = σd.length := by rw [← wd, L2.wipe_length]
        refine ⟨m', lt, i + 1, H', K.unpinned.weak ll (fun k v e => ?_), T.keep _ _ _ tc fun c m o e => (kept c m o e).1, fun c m => ?_, w'⟩
        · rw [← wd] at e
          exact (wipe_some e).1
        · obtain ⟨o, e, _⟩ := T.obj _ _ tc c m
          exact (kept c m o e).2
      cases c with
      | false => exact turned Je pe
      | true =>
        refine thnF (q3.run _ se σd He _ Je pe) fun z1 sf ⟨yk, Hf, Jf, rf, pf⟩ => ?_
        refine thnF (q4.run _ sf σd Hf _ Jf pf) fun z2 sg ⟨yv, Hg, Jg, rg, kvs, k, cb, ey, hk1, hk2, hk3, hk4⟩ => ?_
        subst ey
        cases rf
        exact dictSet_tup (Y := X.blk s3 H3 scope env fp) hu Jg hk2 hk3 hk1 rg fun s' K => turned K hk4
  exact codeAny_compStart_dict loop (T.self X.A 0 _ _ _ t4 loop)
theorem pe_dcT (hc : X.calm = true) (hu : X.A.units + 64 < cLine) (hN : X.N.Nodup) (hi : PI X tg iter wi) (ok : BlkOk X.N X.env.scope scope own)
    (hg : Blk X scope fun Y => PG Y tg g) (ht : Blk X scope fun Y => PTs Y ifs tt) (hk : Blk X scope fun Y => PE Y kx tk) (hv : Blk X scope fun Y => PE Y vx tv) (hs : ∀ x, foldedSetIterable iter X.env x = pure x := by intro _; rfl) :
    PE X (.DictComp kx vx [⟨tg, iter, ifs, 0⟩] scope pos) (tDcT wi g tt tk tv (own.map (·.2))) := by
  constructor
  intro pins s0 σ H Q I0 h0
  rw [arm_eval_DictComp]
  refine dcT_core hc hu hN I0 hi ok hg ht hk hv hs h0 fun D C s' m H' K hq hm hf => ⟨m, hm, fun hp sb => ?_⟩
  obtain ⟨b0, b1, _, b3, b4, b5⟩ := hf
  exact ⟨.ref D, H', K.turned (t' := s'.toks) (fun c o ne e => (sb.2 c ne).trans e) b0 b1 b3 b4 b5, rfl, hq⟩
theorem ps_setDcT {i : Nat} {y : Str} {py spos : Pos} (hc : X.calm = true) (hu : X.A.units + 64 < cLine) (hN : X.N.Nodup) (hy : X.N[i]? = some y) (hyl : X.env.scope.names.lookup y = some .local)
    (hsw : swapsWith (.DictComp kx vx [⟨tg, iter, ifs, 0⟩] scope pos) (some (.Name y py)) spos.line X.env = pure true) (hi : PI X tg iter wi) (ok : BlkOk X.N X.env.scope scope own)
    (hg : Blk X scope fun Y => PG Y tg g) (ht : Blk X scope fun Y => PTs Y ifs tt) (hk : Blk X scope fun Y => PE Y kx tk) (hv : Blk X scope fun Y => PE Y vx tv) (hs : ∀ x, foldedSetIterable iter X.env x = pure x := by intro _; rfl) :
    PS X (.Assign [.Name y py] (.DictComp kx vx [⟨tg, iter, ifs, 0⟩] scope pos) spos) (tAsg (tDcT wi g tt tk tv (own.map (·.2))) (gName i)) := by
  refine ⟨fun pins s σ H D I h => ?_⟩
  rw [exec_Assign_Name_used _ _ _ _ hsw]
  refine wpAny_bind (wpAny_standAt (wpAny_bind ?_))
  show wpAny _ X.A (do let _ ← comprehension (.DictComp kx vx [⟨tg, iter, ifs, 0⟩] scope pos) scope X.env (firstIterPos [⟨tg, iter, ifs, 0⟩] pos) newDict false (eval iter X.env) (some (assign (.Name y py) X.env))) _ _ s
  have h : tDcT wi g tt tk tv (own.map (·.2)) σ H (fun x H1 => gName i x σ H1 D.nx) := h
  refine wpAny_bind (thn (dcT_core (Qf := fun _ s' => SP X pins D .next s') hc hu hN I hi ok hg ht hk hv hs h fun L C s' m H' I' q hn f => ?_) fun _ s' hq => wpAny_pure (wpAny_pure hq))
  show wpAny _ _ (assign (.Name y py) X.env (.ref L)) _ _ _
  refine wpAny_assign_Name (store_ok2 (v := V.ref L) I' hN hy (.inl hyl) rfl (fun s2 I2 ⟨a, sb, ha⟩ => ?_) (.inr hyl))
  obtain ⟨f0, f1, f2, f3, f4, f5⟩ := f
  have haC : C ≠ a := by
    rcases ha with z | z
    · rw [z]; exact f1
    · exact fun e => f4 y a z e.symm
  refine ⟨m, hn.sameBut sb haC, fun h3 sb3 => ?_⟩
  exact ⟨_, H', I2.turned (t' := s2.toks) (fun b o hb e => (sb3.2 b hb).trans e) f0 f1 f3 f4 f5, q⟩
end
section
variable {K : PySem.W.Frag} {b : Option Addr} {F H F' H' F'' H'' F0 H0 : Hp} {v : V} {vs : List V} {d : D} {ds : List D} {t : T} {ts : List T} {f g fp : List Addr} {σ : L2.St} {env : Env} {a p : Addr} {o : HO}
variable {ta tb te tc td ty tx tk tv : TE} {wa wb we wc wd wk wx : EW} {tt tu : TT} {wt wu : TW} {r : R2} {fr : T → T → (T → Prop) → Prop} {tr : TA} {wr : AW} {wi : TI} {wI : IW}
def putM (es : List (List Key × T)) (k : List Key) (t : T) (Q : List (List Key × T) → Prop) : Prop := (look es k = none ∧ Q (es ++ [(k, t)])) ∨ ∃ d, t = .st d ∧ Q (putL es k (.st d))
def compM (f : D → (Option (List Key × T) → Prop) → Prop) : List D → List (List Key × T) → (List (List Key × T) → Prop) → Prop
  | [], es, Q => Q es
  | d :: ds, es, Q => f d fun r => match r with | none => compM f ds es Q | some p => putM es p.1 p.2 fun es' => compM f ds es' Q
def wDcT (wi : IW) (tg : Tgt) (wt : TW) (wk we : EW) (vs : List Nat) : EW := fun env Q => wi env fun ds => ds.length ≤ 100000 ∧
  compM (fun d R => ∃ env', setT tg d (wipeE env vs) = some env' ∧ wt env' fun c => if c = true then wk env' fun k => we env' fun t => ∃ kd key, k = .st kd ∧ kM kd = some key ∧ R (some (key, t)) else R none) ds [] fun es => Q (.vt es)
theorem so_dcT {g : TG} {tg : Tgt} {vs : List Nat} (hi : SoI K wi wI) (hg : SoG K g tg) (hv : ∀ i ∈ tg.slots, i ∈ vs) (ht : SoT K tt wt) (hk : SoE K tk wk) (he : SoN K te we) : SoN K (tDcT wi g tt tk te vs) (wDcT wI tg wt wk we vs) := fun b F0 H0 F H σ env O Q' h1 Q q =>
  hi _ _ _ _ _ _ _ O _ h1 _ fun J ds F1 H1 S1 Y ⟨hl, h2⟩ => by
    intro Dp hD
    have O1 := O.step S1
    have hDf : F1 Dp = none := O1.same.free hD
    refine ⟨fun i m H' => ∃ F' kvs es f, Stp K b F1 H1 F' H' ∧ H' Dp = some (.dT kvs) ∧ F' Dp = none ∧ kvs.map (·.1) = es.map (·.1) ∧ RepTs K b F' H' (kvs.map (·.2)) (es.map (·.2)) f ∧ f.Nodup ∧ (∀ a ∈ f, H1 a = none ∧ a ≠ Dp) ∧ kvs.length ≤ i ∧ i ≤ ds.length ∧ m = ds.length - i ∧
      compM (fun d R => ∃ env', setT tg d (wipeE env vs) = some env' ∧ wt env' fun c => if c = true then wk env' fun k => we env' fun t => ∃ kd key, k = .st kd ∧ kM kd = some key ∧ R (some (key, t)) else R none) (ds.drop i) es (fun es' => Q' (.vt es')),
      ⟨ds.length, F1, [], [], [], .skip O1.fit hD, upd_same, hDf, rfl, .nil, List.nodup_nil, (fun a m => by cases m), Nat.le_refl _, Nat.zero_le _, (by simp), (by simpa using h2)⟩, ?_⟩
    rintro i m H' ⟨F', kvs, es, f, S, eD, nD, ek, rts, nf, kf, la, li, em, hc⟩
    have O' := O1.step S
    by_cases hlt : i < ds.length
    · obtain ⟨d, ed, ed'⟩ := drop_get hlt
      rw [ed'] at hc
      obtain ⟨env', es0, ht'⟩ := hc
      obtain ⟨go, yl⟩ := Y.1 i d ed F' H' S.ff O'.fit
      refine .inr ⟨go, fun H'' => ∃ F' kvs es f, Stp K b F1 H1 F' H'' ∧ H'' Dp = some (.dT kvs) ∧ F' Dp = none ∧ kvs.map (·.1) = es.map (·.1) ∧ RepTs K b F' H'' (kvs.map (·.2)) (es.map (·.2)) f ∧ f.Nodup ∧ (∀ a ∈ f, H1 a = none ∧ a ≠ Dp) ∧ kvs.length ≤ i + 1 ∧ i + 1 ≤ ds.length ∧ 
        compM (fun d R => ∃ env', setT tg d (wipeE env vs) = some env' ∧ wt env' fun c => if c = true then wk env' fun k => we env' fun t => ∃ kd key, k = .st kd ∧ kM kd = some key ∧ R (some (key, t)) else R none) (ds.drop (i + 1)) es (fun es' => Q' (.vt es')),
        fun H'' ⟨F', kvs, es, f, z1, z2, z3, z3', z4, z5, z6, z7, z8, z9⟩ => ⟨ds.length - (i + 1), by omega, F', kvs, es, f, z1, z2, z3, z3', z4, z5, z6, z7, z8, rfl, z9⟩, fun x H2 y => ?_⟩
      obtain ⟨F2, S2, r2⟩ := yl x H2 y
      have O2 := (O'.step S2).wipe vs
      refine hg _ _ _ _ _ _ _ _ _ _ O2 r2 es0 _ fun σ2 O3 w2 => ⟨by rw [w2 vs hv, wipe_wipe], ?_⟩
      refine ht _ _ _ _ _ _ _ O3 _ ht' _ fun c F4 H4 S4 h4 => ?_
      have SA := (S.trans S2).trans S4
      have bD : ∀ a, b = some a → a ≠ Dp := fun a e z => by
        subst z
        obtain ⟨_, _, _, _, z, _⟩ := O1.bx a e
        rw [hD] at z; cases z
      have nbD : b ≠ some Dp := fun e => bD Dp e rfl
      have S24 := S2.trans S4
      have e4 : H4 Dp = some (.dT kvs) := S24.hh _ _ eD nbD
      have n4 : F4 Dp = none := by rw [S24.fk _ _ eD]; exact nD
      have bf : ∀ a ∈ f, b ≠ some a := fun a m e => by
        obtain ⟨_, _, _, _, z, _⟩ := O1.bx a e
        rw [(kf a m).1] at z; cases z
      cases c with
      | false => exact ⟨F4, kvs, es, f, SA, e4, n4, ek, rts.step S24 bf, nf, kf, by omega, by omega, by simpa using h4⟩
      | true =>
        rw [if_pos rfl] at h4
        rw [if_pos rfl]
        refine hk _ _ _ _ _ _ _ (O3.step S4) _ h4 _ fun yk tyk F5 H5 S5 g5 h5 => ?_
        refine he _ _ _ _ _ _ _ ((O3.step S4).step S5) _ h5 _ fun v t f' F6 H6 S6 r6 n6 new6 ⟨kd, key, e7, e8, h6⟩ => ?_
        subst e7
        have e5 : H5 Dp = some (.dT kvs) := S5.hh _ _ e4 nbD
        have e6 : H6 Dp = some (.dT kvs) := S6.hh _ _ e5 nbD
        have nn6 : F6 Dp = none := by rw [S6.fk _ _ e5, S5.fk _ _ e4]; exact n4
        obtain ⟨cb, rfl, hcb⟩ := kM_rep (g5.step S6).inv_st (((O3.step S4).step S5).step S6).same e8
        refine ⟨kvs, key, cb, rfl, hcb, e6, Nat.lt_of_le_of_lt (by omega : kvs.length ≤ 100000) (by decide), ?_⟩
        have S26 := (S24.trans S5).trans S6
        have SB := S.trans S26
        have rts6 := rts.step S26 bf
        have Dnf : Dp ∉ f := fun m => (kf Dp m).2 rfl
        have lp := length_putK kvs key v
        rcases h6 with ⟨h6, h7⟩ | ⟨d', rfl, h7⟩
        · have Dnf' : Dp ∉ f' := fun m => by rw [new6 Dp m] at e5; cases e5
          have dis : ∀ a ∈ f, ∀ c ∈ f', a ≠ c := fun a m c m' e => by
            subst e
            obtain ⟨_, o, eo⟩ := (rts.step (S24.trans S5) bf).known a m
            rw [new6 a m'] at eo; cases eo
          rw [putK_new v (look_none_val ek rts6 h6)]
          refine ⟨F6, kvs ++ [(key, v)], es ++ [(key, t)], f ++ f', SB.mutNew hD nn6 O1.fit, upd_same, nn6, by simp [ek], ?_, List.nodup_append.mpr ⟨nf, n6, dis⟩, fun a m => ?_, by simp; omega, by omega, h7⟩
          · have r7 := rts6.append (RepTs.cons r6 .nil)
            rw [List.append_nil] at r7
            have r8 := r7.keep (F' := F6) (H' := upd H6 Dp (.dT (kvs ++ [(key, v)]))) (fun _ _ z => z) fun a m => ⟨rfl, upd_ne (by
              rcases List.mem_append.mp m with m | m
              · exact fun e => Dnf (e ▸ m)
              · exact fun e => Dnf' (e ▸ m))⟩
            simpa using r8
          · rcases List.mem_append.mp m with m | m
            · exact kf a m
            · refine ⟨?_, fun e => Dnf' (e ▸ m)⟩
              cases z : H1 a with
              | none => rfl
              | some o =>
                obtain ⟨o', z'⟩ := (SA.trans S5).dm a o z
                rw [new6 a m] at z'; cases z'
        · cases r6 with
          | st r6 =>
            obtain ⟨f'', r7, s7, e7⟩ := put_rep key r6 ek rts6
            refine ⟨F6, putK kvs key v, putL es key (.st d'), f'', SB.mutNew hD nn6 O1.fit, upd_same, nn6, e7, r7.keep (fun _ _ z => z) (fun a m => ⟨rfl, upd_ne fun e => Dnf (e ▸ s7.subset m)⟩), nf.sublist s7, fun a m => kf a (s7.subset m), by omega, by omega, h7⟩
    · have e : i = ds.length := by omega
      subst e
      rw [List.drop_length] at hc
      have hc : Q' (.vt es) := hc
      have nn : ∀ a, H1 a = none → H a = none := fun a z => by
        cases y : H a with
        | none => rfl
        | some o =>
          obtain ⟨o', y'⟩ := S1.dm a o y
          rw [z] at y'; cases y'
      refine .inl ⟨Y.2 F' H' S.ff O'.fit, q _ _ (Dp :: f) F' H' (S1.trans S) (.vt nD eD ek rts) (List.nodup_cons.mpr ⟨fun m => (kf Dp m).2 rfl, nf⟩) (fun a m => ?_) hc⟩
      rcases List.mem_cons.mp m with rfl | m
      · exact nn _ hD
      · exact nn _ (kf a m).1
end
/-! ### [.. for x in xs for y in ys] of plain data -/
def compL (f : D → (List D → Prop) → Prop) : List D → (List D → Prop) → Prop
  | [], Q => Q []
  | d :: ds, Q => f d fun es => compL f ds fun us => Q (es ++ us)
def inL (tg : Tgt) (wt : TW) (we : EW) (env : Env) (vs : List Nat) : D → (List D → Prop) → Prop := fun d R => ∃ env', setT tg d (wipeE env vs) = some env' ∧ wt env' fun c => if c = true then we env' fun t => ∃ e, t = .st e ∧ R [e] else R []
def outL (tg : Tgt) (wt : TW) (wi1 : IW) (tg1 : Tgt) (wt1 : TW) (we : EW) (env : Env) (vs vs1 : List Nat) : D → (List D → Prop) → Prop := fun d R => ∃ env', setT tg d (wipeE env vs) = some env' ∧ wt env' fun c => if c = true then wi1 env' fun ds1 => ds1.length ≤ 2000 ∧ compL (inL tg1 wt1 we env' vs1) ds1 R else R []
def wLc2 (wi : IW) (tg : Tgt) (wt : TW) (wi1 : IW) (tg1 : Tgt) (wt1 : TW) (we : EW) (vs vs1 : List Nat) : EW := fun env Q => wi env fun ds => ds.length ≤ 2000 ∧ compL (outL tg wt wi1 tg1 wt1 we env vs vs1) ds fun es => Q (.vl (es.map .st))
section
variable {K : PySem.W.Frag} {b : Option Addr} {F H F' H' F'' H'' F0 H0 : Hp} {v : V} {vs : List V} {d : D} {ds : List D} {t : T} {ts : List T} {f g fp : List Addr} {σ : L2.St} {env : Env} {a p : Addr} {o : HO}
/-- a new object is kept out of sight of the trees -/
theorem Ok.res (O : Ok K b F0 H0 F H σ env) (hp : H p = none) (S : Stp K b F H F' H') (e : H' p = some o) (n : F' p = none) : Ok K b F0 (upd H0 p o) F' H' σ env := by
  obtain ⟨fp, r, nd, kk⟩ := O.ev
  have S2 := O.st.trans S
  have h0 : H0 p = none := by
    cases z : H0 p with
    | none => rfl
    | some u =>
      obtain ⟨u', z'⟩ := O.st.dm p u z
      rw [hp] at z'; cases z'
  have f0 : F0 p = none := by
    cases z : F0 p with
    | none => rfl
    | some u =>
      have := O.st.sub p u (O.st.ff p u z)
      rw [hp] at this; cases this
  have npb : b ≠ some p := fun z => by
    obtain ⟨_, _, _, _, y, _⟩ := O.bx p z
    rw [hp] at y; cases y
  refine ⟨⟨S2.ff, S2.sub, fun a u z nb => ?_, fun a u z => ?_, fun a u z => ?_, fun a z _ => S.bx a z (O.bx a z)⟩, fun a z => S.bx a z (O.bx a z), fp, r.step S fun a m => (kk a m).2, nd, fun a m => ⟨?_, (kk a m).2⟩⟩
  · by_cases q : a = p
    · subst q; rw [upd_same] at z; cases z; exact e
    · rw [upd_ne q] at z; exact S2.hh a u z nb
  · by_cases q : a = p
    · subst q; exact ⟨_, e⟩
    · rw [upd_ne q] at z; exact S2.dm a u z
  · by_cases q : a = p
    · subst q; rw [n, f0]
    · rw [upd_ne q] at z; exact S2.fk a u z
  · have : a ≠ p := fun q => by
      subst q
      obtain ⟨_, u, z⟩ := r.known a m
      rw [hp] at z; cases z
    rw [upd_ne this]; exact (kk a m).1
/-- it is changed -/
theorem Ok.reb {o' : HO} (O : Ok K b F0 (upd H0 p o) F H σ env) (n : F p = none) (npb : b ≠ some p) : Ok K b F0 (upd H0 p o') F (upd H p o') σ env := by
  obtain ⟨fp, r, nd, kk⟩ := O.ev
  have out : ∀ a ∈ fp, a ≠ p := fun a m q => by
    subst q
    have := (kk a m).1
    rw [upd_same] at this; cases this
  have bxx : ∀ a, b = some a → BoxAt K F (upd H p o') a := fun a z => by
    obtain ⟨x0, r, ns, k, x1, x2⟩ := O.bx a z
    exact ⟨x0, r, ns, k, by rw [upd_ne (fun q => npb (by rw [← q]; exact z))]; exact x1, x2⟩
  refine ⟨⟨O.st.ff, fun a u z => ?_, fun a u z nb => ?_, fun a u z => ?_, fun a u z => ?_, fun a z _ => bxx a z⟩, bxx, fp, r.keep (fun _ _ z => z) (fun a m => ⟨rfl, upd_ne (out a m)⟩), nd, fun a m => ⟨?_, (kk a m).2⟩⟩
  · rw [upd_ne (ne_of_none z n)]; exact O.st.sub a u z
  · by_cases q : a = p
    · subst q; rw [upd_same] at z ⊢; exact z
    · rw [upd_ne q] at z ⊢; exact O.st.hh a u (by rw [upd_ne q]; exact z) nb
  · by_cases q : a = p
    · subst q; exact ⟨_, upd_same⟩
    · rw [upd_ne q] at z ⊢; exact O.st.dm a u (by rw [upd_ne q]; exact z)
  · by_cases q : a = p
    · subst q; exact O.st.fk a o upd_same
    · rw [upd_ne q] at z; exact O.st.fk a u (by rw [upd_ne q]; exact z)
  · have := (kk a m).1
    rw [upd_ne (out a m)] at this ⊢; exact this
theorem so_lc2 {wi wi1 : TI} {wI wI1 : IW} {g g1 : TG} {tg tg1 : Tgt} {tt tt1 : TT} {wt wt1 : TW} {te : TE} {we : EW} {vs vs1 : List Nat} (hi : SoI K wi wI) (hg : SoG K g tg) (hv : ∀ i ∈ tg.slots, i ∈ vs) (ht : SoT K tt wt) (hi1 : SoI K wi1 wI1) (hg1 : SoG K g1 tg1) (hv1 : ∀ i ∈ tg1.slots, i ∈ vs1) (ht1 : SoT K tt1 wt1) (he : SoE K te we) :
    SoN K (tLc2 wi g tt wi1 g1 tt1 te vs vs1) (wLc2 wI tg wt wI1 tg1 wt1 we vs vs1) := fun b F0 H0 F H σ env O Q' h1 Q q =>
  hi _ _ _ _ _ _ _ O _ h1 _ fun J ds F1 H1 S1 Y ⟨hl, h2⟩ => by
    intro Dp hD
    have O1 := O.step S1
    have nbD : b ≠ some Dp := fun e => by
      obtain ⟨_, _, _, _, z, _⟩ := O1.bx Dp e
      rw [hD] at z; cases z
    -- what holds of the list while it is made
    let Z : List D → Hp → Hp → Prop := fun es F' H' => Stp K b F1 H1 F' H' ∧ F' Dp = none ∧ ∃ acc, H' Dp = some (.lst acc) ∧ Reps K b F' acc es
    have zstep : ∀ {es : List D} {F' H' F'' H'' : Hp}, Z es F' H' → Stp K b F' H' F'' H'' → Z es F'' H'' := by
      rintro es F' H' F'' H'' ⟨z1, z2, acc, z3, z4⟩ S
      exact ⟨z1.trans S, by rw [S.fk _ _ z3]; exact z2, acc, S.hh _ _ z3 nbD, z4.mono S.ff⟩
    have zadd : ∀ {es : List D} {F' H' : Hp} {y : V} {e : D}, Z es F' H' → Rep K b F' y e → ∃ acc, H' Dp = some (.lst acc) ∧ acc.length = es.length ∧ Z (es ++ [e]) F' (upd H' Dp (.lst (acc ++ [y]))) := by
      rintro es F' H' y e ⟨z1, z2, acc, z3, z4⟩ r
      exact ⟨acc, z3, z4.length, z1.mutNew hD z2 O1.fit, z2, acc ++ [y], upd_same, z4.append (.cons r .nil)⟩
    refine ⟨fun i m H' => ∃ F' es, Z es F' H' ∧ es.length ≤ i * 2000 ∧ i ≤ ds.length ∧ m = ds.length - i ∧ compL (outL tg wt wI1 tg1 wt1 we env vs vs1) (ds.drop i) fun es' => Q' (.vl ((es ++ es').map .st)),
      ⟨ds.length, F1, [], ⟨.skip O1.fit hD, O1.same.free hD, [], upd_same, .nil⟩, by simp, Nat.zero_le _, by simp, by simpa using h2⟩, ?_⟩
    rintro i m H' ⟨F', es, z, le, li, em, hc⟩
    have OS : ∀ {es : List D} {F' H' : Hp}, Z es F' H' → ∃ o, H' Dp = some o ∧ Ok K b F0 (upd H0 Dp o) F' H' σ env := fun {es F' H'} ⟨q1, q2, acc, q3, q4⟩ => ⟨_, q3, O1.res hD q1 q3 q2⟩
    obtain ⟨o', eo', O'⟩ := OS z
    by_cases hlt : i < ds.length
    · obtain ⟨d, ed, ed'⟩ := drop_get hlt
      rw [ed'] at hc
      obtain ⟨env', es0, ht'⟩ := hc
      obtain ⟨go, yl⟩ := Y.1 i d ed F' H' z.1.ff O'.fit
      refine .inr ⟨go, fun H'' => ∃ F' es, Z es F' H'' ∧ es.length ≤ (i + 1) * 2000 ∧ compL (outL tg wt wI1 tg1 wt1 we env vs vs1) (ds.drop (i + 1)) fun es' => Q' (.vl ((es ++ es').map .st)), fun H'' ⟨F', es, y1, y2, y3⟩ => ⟨ds.length - (i + 1), by omega, F', es, y1, y2, by omega, rfl, y3⟩, fun x H2 y => ?_⟩
      obtain ⟨F2, S2, r2⟩ := yl x H2 y
      have O2 := (O'.step S2).wipe vs
      refine hg _ _ _ _ _ _ _ _ _ _ O2 r2 es0 _ fun σ2 O3 w2 => ⟨by rw [w2 vs hv, wipe_wipe], ?_⟩
      refine ht _ _ _ _ _ _ _ O3 _ ht' _ fun c F4 H4 S4 h4 => ?_
      have z4 := zstep z (S2.trans S4)
      cases c with
      | false => exact ⟨F4, es, z4, by omega, by simpa using h4⟩
      | true =>
        rw [if_pos rfl] at h4
        rw [if_pos rfl]
        refine hi1 _ _ _ _ _ _ _ (O3.step S4) _ h4 _ fun J1 ds1 F5 H5 S5 Y1 ⟨hl1, h5⟩ => ?_
        have O5 := (O3.step S4).step S5
        have z5 := zstep z4 S5
        have e5 : H5 Dp = some o' := (S2.trans (S4.trans S5)).hh _ _ eo' nbD
        refine ⟨fun j k H'' => ∃ F' es' u, Z es' F' H'' ∧ H'' Dp = some u ∧ Ok K b F0 (upd H0 Dp u) F' H'' σ2 env' ∧ Same F5 F' ∧ es'.length ≤ es.length + j ∧ j ≤ ds1.length ∧ k = ds1.length - j ∧ compL (inL tg1 wt1 we env' vs1) (ds1.drop j) (fun us => compL (outL tg wt wI1 tg1 wt1 we env vs vs1) (ds.drop (i + 1)) fun es2 => Q' (.vl (((es' ++ us) ++ es2).map .st))),
          ⟨ds1.length, F5, es, o', z5, e5, O5, fun _ _ h => h, by omega, Nat.zero_le _, by simp, by simpa [List.append_assoc] using h5⟩, ?_⟩
        rintro j k Ha ⟨Fa, ea, u, za, eu, Oa, sa, la, lja, ek, hca⟩
        by_cases hlt1 : j < ds1.length
        · obtain ⟨d1, ed1, ed1'⟩ := drop_get hlt1
          rw [ed1'] at hca
          obtain ⟨env2, es1, ht1'⟩ := hca
          obtain ⟨go1, yl1⟩ := Y1.1 j d1 ed1 Fa Ha sa Oa.fit
          refine .inr ⟨go1, fun H'' => ∃ F' es' u, Z es' F' H'' ∧ H'' Dp = some u ∧ Ok K b F0 (upd H0 Dp u) F' H'' σ2 env' ∧ Same F5 F' ∧ es'.length ≤ es.length + (j + 1) ∧ compL (inL tg1 wt1 we env' vs1) (ds1.drop (j + 1)) (fun us => compL (outL tg wt wI1 tg1 wt1 we env vs vs1) (ds.drop (i + 1)) fun es2 => Q' (.vl (((es' ++ us) ++ es2).map .st))),
            fun H'' ⟨F', es', u, y1, y2, y3, y4, y5, y6⟩ => ⟨ds1.length - (j + 1), by omega, F', es', u, y1, y2, y3, y4, y5, by omega, rfl, y6⟩, fun x1 Hb y1 => ?_⟩
          obtain ⟨Fb, Sb, rb⟩ := yl1 x1 Hb y1
          have Ob := (Oa.step Sb).wipe vs1
          refine hg1 _ _ _ _ _ _ _ _ _ _ Ob rb es1 _ fun σ3 Oc w3 => ⟨by rw [w3 vs1 hv1, wipe_wipe], ?_⟩
          refine ht1 _ _ _ _ _ _ _ Oc _ ht1' _ fun c1 Fd Hd Sd hd1 => ?_
          have Sbd := Sb.trans Sd
          cases c1 with
          | false => exact ⟨Fd, ea, u, zstep za Sbd, Sbd.hh _ _ eu nbD, Oa.step Sbd, sa.trans Sbd.ff, by omega, by simpa [List.append_assoc] using hd1⟩
          | true =>
            rw [if_pos rfl] at hd1
            rw [if_pos rfl]
            refine he _ _ _ _ _ _ _ (Oc.step Sd) _ hd1 _ fun ye te1 Fe He Se ge ⟨e1, et, he1⟩ => ?_
            subst et
            have Sbe := Sbd.trans Se
            have ze := zstep za Sbe
            obtain ⟨acc, q1, q2, q3⟩ := zadd ze ge.inv_st
            have Oe := Oa.step Sbe
            have ue : He Dp = some u := Sbe.hh _ _ eu nbD
            rw [q1] at ue
            cases ue
            have hi2 : i * 2000 ≤ 2000 * 2000 := Nat.mul_le_mul_right _ (by omega)
            refine ⟨acc, q1, Nat.lt_of_lt_of_le (by omega : acc.length < 5000000) (by decide), Fe, ea ++ [e1], _, q3, upd_same, Oe.reb ze.2.1 nbD, sa.trans Sbe.ff, by simp; omega, by simpa [List.append_assoc] using he1⟩
        · have e : j = ds1.length := by omega
          subst e
          rw [List.drop_length] at hca
          have hca : compL (outL tg wt wI1 tg1 wt1 we env vs vs1) (ds.drop (i + 1)) fun es2 => Q' (.vl (((ea ++ []) ++ es2).map .st)) := hca
          exact .inl ⟨Y1.2 Fa Ha sa Oa.fit, Fa, ea, za, by omega, by simpa using hca⟩
    · have e : i = ds.length := by omega
      subst e
      rw [List.drop_length] at hc
      have hc : Q' (.vl ((es ++ []).map .st)) := hc
      rw [List.append_nil] at hc
      have nn : ∀ a, H1 a = none → H a = none := fun a z => by
        cases y : H a with
        | none => rfl
        | some o =>
          obtain ⟨o', y'⟩ := S1.dm a o y
          rw [z] at y'; cases y'
      obtain ⟨z1, z2, acc, z3, z4⟩ := z
      exact .inl ⟨Y.2 F' H' z1.ff O'.fit, q _ _ [Dp] F' H' (S1.trans z1) (.vl z2 z3 z4.repTs) (by simp) (fun a m => by rw [List.mem_singleton.mp m]; exact nn _ hD) hc⟩
end
section
variable {K : PySem.W.Frag} {b : Option Addr} {F H F' H' F'' H'' F0 H0 : Hp} {σ : L2.St} {env : Env}
variable {ta tb te : TE} {wa wb we : EW} {tr : TA} {wr : AW}
/-! ### a, b = x, y -/
def sPar2 (i j : Nat) (wr : AW) : SW := fun E env => wr env fun ts => ∃ d e, ts = [.st d, .st e] ∧ E.nx ((env.set i (some (.st d))).set j (some (.st e)))
theorem so_par2 {i j : Nat} (h : SoA K tr wr) : SoS K (tPar i j tr) (sPar2 i j wr) := fun b F0 H0 F H σ env O E h1 D q =>
  h _ _ _ _ _ _ _ O _ h1 _ fun vs ts F1 H1 S1 g1 ⟨d, e, et, h2⟩ => by
    subst et
    obtain ⟨v, vs', rfl, r1, r2⟩ := g1.inv_cons
    obtain ⟨w, rfl, r3⟩ := r2.one
    exact ⟨v, w, rfl, q.nx F1 H1 _ _ S1.ff (((O.step S1).setD i r1.inv_st).setD j r3.inv_st) h2⟩
def sPar3 (i j l : Nat) (wr : AW) : SW := fun E env => wr env fun ts => ∃ d e f, ts = [.st d, .st e, .st f] ∧ E.nx (((env.set i (some (.st d))).set j (some (.st e))).set l (some (.st f)))
theorem so_par3 {i j l : Nat} (h : SoA K tr wr) : SoS K (tPar3 i j l tr) (sPar3 i j l wr) := fun b F0 H0 F H σ env O E h1 D q =>
  h _ _ _ _ _ _ _ O _ h1 _ fun vs ts F1 H1 S1 g1 ⟨d, e, f, et, h2⟩ => by
    subst et
    obtain ⟨v, vs', rfl, r1, r2⟩ := g1.inv_cons
    obtain ⟨v2, vs2, rfl, r3, r4⟩ := r2.inv_cons
    obtain ⟨w, rfl, r5⟩ := r4.one
    exact ⟨v, v2, w, rfl, q.nx F1 H1 _ _ S1.ff ((((O.step S1).setD i r1.inv_st).setD j r3.inv_st).setD l r5.inv_st) h2⟩
/-! ### gcd, a text's letters, and and or as values -/
def fGcd : List T → (T → Prop) → Prop := fun ts Q => ∃ a b : Int, ts = [.st (.int a), .st (.int b)] ∧ Q (.st (.int ((Nat.gcd a.natAbs b.natAbs : Nat) : Int)))
theorem soc_gcd : SoC K rGcd fGcd := fun b F H vs ts e gs Q' ⟨x, y, et, h⟩ Q q => by
  subst et
  obtain ⟨v, vs', rfl, r1, r2⟩ := gs.inv_cons
  obtain ⟨w, rfl, r3⟩ := r2.one
  exact ⟨x, y, by rw [r1.int, r3.int], q _ _ F H e.refl (.st (.int _)) h⟩
def wIs (we : EW) : IW := fun env Q => we env fun t => ∃ x, t = .st (.str x) ∧ Q (x.cps.toList.map fun c => .str ⟨#[c]⟩)
theorem so_is (h : SoE K te we) : SoI K (iStr te) (wIs we) := fun b F0 H0 F H σ env O Q' h1 R q =>
  h _ _ _ _ _ _ _ O _ h1 _ fun v t F1 H1 S1 g1 ⟨x, et, h2⟩ => by
    subst et
    refine ⟨x, g1.str, q _ _ F1 H1 S1 ⟨fun i d e F' H' s f => ?_, fun F' H' s f => by simp [Its]⟩ h2⟩
    rw [List.getElem?_map, Option.map_eq_some_iff] at e
    obtain ⟨c, e, rfl⟩ := e
    have hl : i < x.cps.size := by
      have := (List.getElem?_eq_some_iff.mp e).1
      simpa using this
    refine ⟨hl, fun y H'' ⟨e1, c', e2, e3⟩ => ?_⟩
    subst e1 e3
    have : c' = c := by
      rw [← Array.getElem?_toList, e] at e2
      exact (Option.some.inj e2).symm
    subst this
    exact ⟨F', .refl f.1, .str _⟩
def wOrV (wa wb : EW) : EW := fun env Q => wa env fun t => ∃ c, t = .st (.bl c) ∧ if c = true then Q (.st (.bl true)) else wb env Q
theorem so_orV (ha : SoE K ta wa) (hb : SoE K tb wb) : SoE K (tOrV ta tb) (wOrV wa wb) := fun b F0 H0 F H σ env O Q' h1 Q q =>
  ha _ _ _ _ _ _ _ O _ h1 _ fun v t F1 H1 S1 g1 ⟨c, et, h2⟩ => by
    subst et
    refine ⟨c, g1.bl, ?_⟩
    cases c with
    | true => exact q _ _ F1 H1 S1 (.st (.bl true)) h2
    | false => exact hb _ _ _ _ _ _ _ (O.step S1) _ h2 _ fun v t F2 H2 S2 g2 h3 => q v t F2 H2 (S1.trans S2) g2 h3
def wAndV (wa wb : EW) : EW := fun env Q => wa env fun t => ∃ c, t = .st (.bl c) ∧ if c = true then wb env Q else Q (.st (.bl false))
theorem so_andV (ha : SoE K ta wa) (hb : SoE K tb wb) : SoE K (tAndV ta tb) (wAndV wa wb) := fun b F0 H0 F H σ env O Q' h1 Q q =>
  ha _ _ _ _ _ _ _ O _ h1 _ fun v t F1 H1 S1 g1 ⟨c, et, h2⟩ => by
    subst et
    refine ⟨c, g1.bl, ?_⟩
    cases c with
    | true => exact hb _ _ _ _ _ _ _ (O.step S1) _ h2 _ fun v t F2 H2 S2 g2 h3 => q v t F2 H2 (S1.trans S2) g2 h3
    | false => exact q _ _ F1 H1 S1 (.st (.bl false)) h2
def wNotV (wa : EW) : EW := fun env Q => wa env fun t => ∃ c, t = .st (.bl c) ∧ Q (.st (.bl (!c)))
theorem so_notV (ha : SoE K ta wa) : SoE K (tNotV ta) (wNotV wa) := fun b F0 H0 F H σ env O Q' h1 Q q =>
  ha _ _ _ _ _ _ _ O _ h1 _ fun v t F1 H1 S1 g1 ⟨c, et, h2⟩ => by
    subst et
    exact ⟨c, g1.bl, q _ _ F1 H1 S1 (.st (.bl (!c))) h2⟩
end
section
variable {K : PySem.W.Frag} {X : Cx} {a b c e o i : Expr} {es : List Expr} {ta tb tc te to ti tl : TE} {wa wb wc we wo wi : EW} {pos p p2 apos cpos : Pos} {tr : TA} {wr : AW} {tt tu : TT} {wt wu : TW}
theorem x_gcd (hK : X.K = K) (hm : X.mg "gcd" = some (.builtin "math.gcd")) (ha : PAw K X [a, b] tr wr) (hg : Gl X "gcd" := by rfl) (he : starEach [a, b] X.env = (false, eval a X.env) :: starEach [b] X.env := by rfl) (hpl : (backTo pos (starEach [b] X.env)).any (·.1) = false := by rfl) : PEw K X (.Call (.Name "gcd" p) [a, b] [] pos) (tCB rGcd tr) (wCB fGcd wr) := ⟨pe_callBfun cr_gcd hg hm ha.pe (by decide) he hpl, so_cb ha.so soc_gcd⟩
theorem x_gi {x : Str} {n : Int} {u : Value} (hm : X.mg x = some u) (hr : L2.RelV (.int n) u) (hg : Gl X x := by rfl) (hd : (x == ("__debug__" : Str)) = false := by decide) : PEw K X (.Name x p) (tC (.int n)) (wC (.int n)) := ⟨pe_glob hg hm hr hd, so_int⟩
theorem i_str {tg : Expr} (h : PEw K X a ta wa) : PIw K X tg a (iStr ta) (wIs wa) := ⟨pi_str h.pe, so_is h.so⟩
theorem x_one {op} (h : PEw K X a ta wa) : PEw K X (.BoolOp op [a] pos) ta wa := ⟨pe_one h.pe, h.so⟩
theorem x_or {rest : List Expr} (ha : PEw K X a ta wa) (hb : PEw K X (.BoolOp .Or (b :: rest) pos) tb wb) : PEw K X (.BoolOp .Or (a :: b :: rest) pos) (tOrV ta tb) (wOrV wa wb) := ⟨pe_or ha.pe hb.pe, so_orV ha.so hb.so⟩
theorem x_and {rest : List Expr} (ha : PEw K X a ta wa) (hb : PEw K X (.BoolOp .And (b :: rest) pos) tb wb) : PEw K X (.BoolOp .And (a :: b :: rest) pos) (tAndV ta tb) (wAndV wa wb) := ⟨pe_and ha.pe hb.pe, so_andV ha.so hb.so⟩
theorem x_not (ha : PEw K X a ta wa) : PEw K X (.UnaryOp .Not a pos) (tNotV ta) (wNotV wa) := ⟨pe_not ha.pe, so_notV ha.so⟩
section
variable {elt kx vx tg iter tg1 iter1 : Expr} {ifs ifs1 : List Expr} {scope : Scope} {wI wI1 : TI} {wi wi1 : IW} {g g1 : TG} {tgt tgt1 : Tgt} {tk : TE} {wk : EW} {tt1 : TT} {wt1 : TW}
theorem n_dcT (own : List (Str × Nat)) (hc : X.calm = true) (hN : X.N.Nodup) (hu : X.A.units + 64 < cLine) (hi : PIw K X tg iter wI wi) (hg : Blk X scope fun Y => PGw K Y tg g tgt) (ht : Blk X scope fun Y => PTsw K Y ifs tt wt) (hk : Blk X scope fun Y => PEw K Y kx tk wk) (he : Blk X scope fun Y => PNw K Y vx te we)
    (ok : blkC X.N X.env.scope scope own = true := by kernel_rfl) (hv : ∀ i ∈ tgt.slots, i ∈ own.map (·.2) := by decide) (hs : ∀ x, foldedSetIterable iter X.env x = pure x := by intro _; rfl) :
    PNw K X (.DictComp kx vx [⟨tg, iter, ifs, 0⟩] scope pos) (tDcT wI g tt tk te (own.map (·.2))) (wDcT wi tgt wt wk we (own.map (·.2))) :=
  ⟨pe_dcT hc hu hN hi.pe (blkOk_by ok) (fun s H C cl fp => (hg s H C cl fp).pe) (fun s H C cl fp => (ht s H C cl fp).pe) (fun s H C cl fp => (hk s H C cl fp).pe) (fun s H C cl fp => (he s H C cl fp).pe) hs, so_dcT hi.so hg.one.so hv ht.one.so hk.one.so he.one.so⟩
theorem n_lc2 (own : List (Str × Nat)) (vs1 : List Nat) (hc : X.calm = true) (hN : X.N.Nodup) (hi : PIw K X tg iter wI wi) (hg : Blk X scope fun Y => PGw K Y tg g tgt) (ht : Blk X scope fun Y => PTsw K Y ifs tt wt) (hi1 : Blk X scope fun Y => PIw K Y tg1 iter1 wI1 wi1) (hg1 : Blk X scope fun Y => PGw K Y tg1 g1 tgt1) (ht1 : Blk X scope fun Y => PTsw K Y ifs1 tt1 wt1) (he : Blk X scope fun Y => PEw K Y elt te we)
    (ok : blkC X.N X.env.scope scope own = true := by kernel_rfl) (hv : ∀ i ∈ tgt.slots, i ∈ own.map (·.2) := by decide) (hv1 : ∀ i ∈ tgt1.slots, i ∈ vs1 := by decide) (hv2 : ∀ i ∈ vs1, i ∈ own.map (·.2) := by decide) (hs : ∀ x, foldedSetIterable iter X.env x = pure x := by intro _; rfl) (hs1 : ∀ env x, foldedSetIterable iter1 env x = pure x := by intro _ _; rfl) :
    PNw K X (.ListComp elt [⟨tg, iter, ifs, 0⟩, ⟨tg1, iter1, ifs1, 0⟩] scope pos) (tLc2 wI g tt wI1 g1 tt1 te (own.map (·.2)) vs1) (wLc2 wi tgt wt wi1 tgt1 wt1 we (own.map (·.2)) vs1) :=
  ⟨pe_lc2 hc hN hi.pe (blkOk_by ok) hv2 (fun s H C cl fp => (hg s H C cl fp).pe) (fun s H C cl fp => (ht s H C cl fp).pe) (fun s H C cl fp => (hi1 s H C cl fp).pe) (fun s H C cl fp => (hg1 s H C cl fp).pe) (fun s H C cl fp => (ht1 s H C cl fp).pe) (fun s H C cl fp => (he s H C cl fp).pe) hs hs1,
    so_lc2 hi.so hg.one.so hv ht.one.so hi1.one.so hg1.one.so hv1 ht1.one.so he.one.so⟩
variable {spos py px pz pt : Pos} {y x z : Str} {kt k2 : Nat} {pt2 : Pos}
theorem y_newDcT (i : Nat) (own : List (Str × Nat)) (hc : X.calm = true) (hN : X.N.Nodup) (hu : X.A.units + 64 < cLine) (hi : PIw K X tg iter wI wi) (hg : Blk X scope fun Y => PGw K Y tg g tgt) (ht : Blk X scope fun Y => PTsw K Y ifs tt wt) (hkx : Blk X scope fun Y => PEw K Y kx tk wk) (he : Blk X scope fun Y => PNw K Y vx te we)
    (hy : X.N[i]? = some y := by rfl) (hyl : X.env.scope.names.lookup y = some .local := by rfl) (hk : X.env.scope.kind = .function := by rfl) (hl : (py.line == pos.line) = true := by rfl) (hq : (scope.names.any fun (n, k) => n == y && (k == .local || k == .cell)) = false := by kernel_rfl)
    (ok : blkC X.N X.env.scope scope own = true := by kernel_rfl) (hv : ∀ i ∈ tgt.slots, i ∈ own.map (·.2) := by decide) (hs : ∀ x, foldedSetIterable iter X.env x = pure x := by intro _; rfl) :
    PSw K X (.Assign [.Name y py] (.DictComp kx vx [⟨tg, iter, ifs, 0⟩] scope pos) spos) (tAsg (tDcT wI g tt tk te (own.map (·.2))) (gName i)) (sNew i (wDcT wi tgt wt wk we (own.map (·.2)))) :=
  ⟨ps_setDcT hc hu hN hy hyl (sw_trueD hk hyl hl hq) hi.pe (blkOk_by ok) (fun s H C cl fp => (hg s H C cl fp).pe) (fun s H C cl fp => (ht s H C cl fp).pe) (fun s H C cl fp => (hkx s H C cl fp).pe) (fun s H C cl fp => (he s H C cl fp).pe) hs, so_new (so_dcT hi.so hg.one.so hv ht.one.so hkx.one.so he.one.so)⟩
theorem y_asgDcT (i : Nat) (own : List (Str × Nat)) (hc : X.calm = true) (hN : X.N.Nodup) (hu : X.A.units + 64 < cLine) (hi : PIw K X tg iter wI wi) (hg : Blk X scope fun Y => PGw K Y tg g tgt) (ht : Blk X scope fun Y => PTsw K Y ifs tt wt) (hkx : Blk X scope fun Y => PEw K Y kx tk wk) (he : Blk X scope fun Y => PNw K Y vx te we)
    (hy : X.N[i]? = some y := by rfl) (hyl : X.env.scope.names.lookup y = some .local := by rfl) (hk : X.env.scope.kind = .function := by rfl) (hl : (py.line == pos.line) = true := by rfl) (hq : (scope.names.any fun (n, k) => n == y && (k == .local || k == .cell)) = false := by kernel_rfl)
    (ok : blkC X.N X.env.scope scope own = true := by kernel_rfl) (hv : ∀ i ∈ tgt.slots, i ∈ own.map (·.2) := by decide) (hs : ∀ x, foldedSetIterable iter X.env x = pure x := by intro _; rfl) :
    PSw K X (.Assign [.Name y py] (.DictComp kx vx [⟨tg, iter, ifs, 0⟩] scope pos) spos) (tAsg (tDcT wI g tt tk te (own.map (·.2))) (gName i)) (sAsg i (wFz (wDcT wi tgt wt wk we (own.map (·.2))))) :=
  ⟨(y_newDcT i own hc hN hu hi hg ht hkx he hy hyl hk hl hq ok hv hs).pe, so_asg (so_fz (so_dcT hi.so hg.one.so hv ht.one.so hkx.one.so he.one.so))⟩
theorem y_par2 (i j : Nat) (hc : X.calm = true) (hN : X.N.Nodup) (ha : PAw K X [a, b] tr wr) (hi : X.N[i]? = some x := by rfl) (hj : X.N[j]? = some y := by rfl) (hij : i ≠ j := by decide)
    (hx : X.env.scope.names.lookup x = some .local := by rfl) (hy : X.env.scope.names.lookup y = some .local := by rfl)
    (hw : swappedStores [.Tuple [.Name x px, .Name y py] kt pt] (.Tuple [a, b] k2 pt2) X.env = pure (some [x, y]) := by rfl) (hs : swapsWithSole [.Tuple [.Name x px, .Name y py] kt pt] (.Tuple [a, b] k2 pt2) pos.line X.env = pure false := by rfl) :
    PSw K X (.Assign [.Tuple [.Name x px, .Name y py] kt pt] (.Tuple [a, b] k2 pt2) pos) (tPar i j tr) (sPar2 i j wr) := ⟨ps_par hc hN hi hj hij hx hy ha.pe hw hs, so_par2 ha.so⟩
theorem y_par3 (i j l : Nat) (hc : X.calm = true) (hN : X.N.Nodup) (ha : PAw K X [a, b, c] tr wr) (hi : X.N[i]? = some x := by rfl) (hj : X.N[j]? = some y := by rfl) (hl : X.N[l]? = some z := by rfl) (hij : i ≠ j := by decide) (hil : i ≠ l := by decide) (hjl : j ≠ l := by decide)
    (hx : X.env.scope.names.lookup x = some .local := by rfl) (hy : X.env.scope.names.lookup y = some .local := by rfl) (hz : X.env.scope.names.lookup z = some .local := by rfl)
    (hw : swappedStores [.Tuple [.Name x px, .Name y py, .Name z pz] kt pt] (.Tuple [a, b, c] k2 pt2) X.env = pure (some [x, y, z]) := by rfl) (hs : swapsWithSole [.Tuple [.Name x px, .Name y py, .Name z pz] kt pt] (.Tuple [a, b, c] k2 pt2) pos.line X.env = pure false := by rfl) :
    PSw K X (.Assign [.Tuple [.Name x px, .Name y py, .Name z pz] kt pt] (.Tuple [a, b, c] k2 pt2) pos) (tPar3 i j l tr) (sPar3 i j l wr) := ⟨ps_par3 hc hN hi hj hl hij hil hjl hx hy hz ha.pe hw hs, so_par3 ha.so⟩
end
end
end Pw
namespace Pw
open PySem PySem.Spec PyProof.Rows L2
/-! ### sorted of tuples whose first texts differ -/
section
variable {prog : Program} {w : World} {A : Around} {E : Value → Shared → Prop} {s : Shared}
/-- the heap once the items are collected -/
def gathered (h : Heap) (vs : List Value) : Heap := (h.push (seqObj "list" #[] 0)).update h.objs.size (Obj.mapSeq (· ++ vs.toArray))
theorem collect_tup {l : Addr} {vs : List Value} {Q : List Value → Shared → Prop} (hl : IsTup s.heap l vs.toArray) (hz : vs.length ≤ sizeLine) (h : Q vs { s with heap := gathered s.heap vs }) : wpAny (model prog w) A (collect (.ref l)) Q E s := by
  obtain ⟨o, ho, hc, n, hd⟩ := hl
  unfold collect
  refine wpAny_bind (wpAny_runValue (codeAny_builtin entry_proto_collect' ?_))
  show wpAny _ _ (do
    again (.builtin "list.__iadd__" ⟨[← newList [], .ref l], []⟩)) _ _ s
  refine wpAny_bind (wpAny_newList (wpAny_pure ⟨Code.quiet_builtin _ (by decide +kernel), codeAny_builtin entry_list_iadd' ?_⟩))
  have nw : (s.heap.push (seqObj "list" #[] 0)).get? s.heap.objs.size = some (seqObj "list" #[] 0) := Heap.get?_push_size _ rfl
  have ol : (s.heap.push (seqObj "list" #[] 0)).get? l = some o := Heap.get?_push_of_some _ ho
  generalize e1 : s.heap.push (seqObj "list" #[] 0) = h1 at nw ol
  show wpAny _ _ (Builtin.List.listExtendWith (.ref s.heap.objs.size) (.ref l) (.ref s.heap.objs.size)) _ _ { s with heap := h1 }
  unfold Builtin.List.listExtendWith
  refine wpAny_bind (wpAny_typeOf (T := "tuple") ⟨o, ol, hc⟩ ?_)
  have ht : (Value.type "tuple" == Value.type "tuple") = true := by rfl
  rw [if_pos (by rw [ht]; simp)]
  refine wpAny_bind (listItems_at ol hd (wpAny_bind (listItems_at nw rfl ?_)))
  rw [if_neg (by simp)]
  refine wpAny_bind (listUpdate_at nw rfl (wpAny_pure ?_) (Nat.zero_le _) (by simp [Array.size_append]; omega))
  show wpAny (model prog w) A (do
      let o ← load s.heap.objs.size
      match o.data with
        | .seq xs _ => pure xs.toList
        | _ => unsupported "internal:collect") Q E { s with heap := h1.update s.heap.objs.size (Obj.mapSeq (· ++ vs.toArray)) }
  refine wpAny_bind (wpAny_load (get?_update_seq nw _) ?_)
  show wpAny _ _ (pure ((#[] : Array Value) ++ vs.toArray).toList) Q E _
  have ev : ((#[] : Array Value) ++ vs.toArray).toList = vs := by simp
  rw [ev]
  refine wpAny_pure ?_
  subst e1
  exact h
theorem sorted_of {x : Value} {vs : List Value} {ltv : Value → Value → Bool} {Q : Value → Shared → Prop} (O : SrtO.Swo ltv) (hz : vs.length ≤ sizeLine)
    (hc : ∀ {A : Around} {R : List Value → Shared → Prop} {E : Value → Shared → Prop}, R vs { s with heap := gathered s.heap vs } → wpAny (model prog w) A (collect x) R E s)
    (hS : 2 ≤ vs.length → ∀ (h₁ : Heap) (a : Addr), h₁.get? a = some (seqObj "list" vs.toArray 0) → (∀ b o, s.heap.get? b = some o → b ≠ a ∧ h₁.get? b = some o) → SrtO.SortableO prog w A.in1.in1 { s with heap := h₁ } a vs ltv)
    (h : ∀ out : List Value, SrtO.Srtd ltv out → SrtO.Stb ltv out vs → Q (.ref (s.heap.objs.size + 1)) { s with heap := sortedAll s.heap vs out.toArray }) :
    wpAny (model prog w) A (call (.builtin "sorted") [x]) Q E s := by
  refine Calls.call_function_entry kind_sorted plain_sorted entry_sorted (args_sorted1 _) ?_
  unfold Builtin.«sorted»
  refine wpAny_bind (m := checkCount "sorted" 1 1 _) (wpAny_pure ?_)
  refine wpAny_bind (hc ?_)
  refine wpAny_bind (wpAny_newList ?_ hz)
  have sz : (gathered s.heap vs).objs.size = s.heap.objs.size + 1 := by unfold gathered; rw [Heap.size_update, size_push']
  have old : ∀ b o, s.heap.get? b = some o → b ≠ s.heap.objs.size + 1 ∧ ((gathered s.heap vs).push (seqObj "list" vs.toArray 0)).get? b = some o := fun b o q => by
    have lt := Heap.lt_size q
    refine ⟨Nat.ne_of_lt (Nat.lt_succ_of_lt lt), Heap.get?_push_of_some _ ?_⟩
    unfold gathered
    rw [Heap.get?_update_ne _ _ _ _ (Nat.ne_of_lt lt)]
    exact Heap.get?_push_of_some _ q
  have new : ((gathered s.heap vs).push (seqObj "list" vs.toArray 0)).get? (s.heap.objs.size + 1) = some (seqObj "list" vs.toArray 0) := by
    rw [← sz]; exact Heap.get?_push_size _ rfl
  show wpAny _ _ _ _ _ { s with heap := (gathered s.heap vs).push (seqObj "list" vs.toArray 0) }
  rw [show ({ s with heap := gathered s.heap vs } : Shared).heap.objs.size = s.heap.objs.size + 1 from sz]
  refine wpAny_bind (wpAny_holding (wpAny_call_entry slot_list_sort ⟨_, new, rfl⟩ entry_list_sort ?_ (args_list_sort _)))
  refine SrtO.list_sort_ord O new hz (fun h2 => hS h2 _ _ new old) fun out hs hb => ⟨_, rfl, ?_⟩
  exact wpAny_pure ⟨_, rfl, h out hs hb⟩
def ltS (x y : Str) : Bool := decide (x.cps.toList < y.cps.toList)
theorem ltS_swo {α : Type} (k : α → Str) : SrtO.Swo fun v u => ltS (k v) (k u) := by
  refine ⟨fun x y h => ?_, fun x y z h1 h2 => ?_⟩
  · unfold ltS at h ⊢
    rw [decide_eq_true_eq] at h
    exact decide_eq_false fun h2 => List.lt_irrefl _ (List.lt_trans h h2)
  · unfold ltS at h1 h2 ⊢
    rw [decide_eq_false_iff_not] at h1 h2 ⊢
    rw [List.not_lt] at h1 h2 ⊢
    exact List.le_trans h1 h2
/-- a tuple whose first item is this text -/
def IsRow (h : Heap) (v : Value) (x : Str) : Prop := ∃ a o t xs n, v = .ref a ∧ h.get? a = some o ∧ o.cls = .type "tuple" ∧ o.data = .seq xs n ∧ xs.toList.head? = some (.str x t)
theorem IsRow.keeps {h h' : Heap} {v : Value} {x : Str} (p : IsRow h v x) (k : ∀ b o, h.get? b = some o → o.cls = .type "tuple" → h'.get? b = some o) : IsRow h' v x := by
  obtain ⟨a, o, t, xs, n, e, ho, hc, hd, hx⟩ := p
  exact ⟨a, o, t, xs, n, e, k a o ho hc, hc, hd, hx⟩
theorem kat_refl {b : Bool} {Q : Bool → Shared → Prop} (q : Q false s) : ∀ (l : List Value) (i : Nat), PySem.W.KatLex prog w A b false Q (l.zip l) i s
  | [], i => PySem.W.kat_nil q
  | x :: l, i => PySem.W.kat_cons (SeqAt.EqAt.same x prog w _ _ (PySem.W.kat_yes (kat_refl q l (i + 1))))
theorem row_cmp {vs : List Value} {k : Value → Str} (hp : ∀ v ∈ vs, IsRow s.heap v (k v)) (inj : ∀ v ∈ vs, ∀ u ∈ vs, k v = k u → v = u) : SrtO.Cmp prog w A s (tuples' true) (fun p => p.1 ∈ vs) (SrtO.lt2 fun v u => ltS (k v) (k u)) := by
  intro p q hm hm'
  show wpAny (model prog w) A (keyLt' (tuples' true) p.1 q.1) (fun r s' => s' = s ∧ r = ltS (k p.1) (k q.1)) (fun _ _ => False) s
  by_cases e : k p.1 = k q.1
  · have e2 := inj _ hm _ hm' e
    rw [← e2]
    obtain ⟨a, o, t, xs, n, ea, ho, hc, hd, hx⟩ := hp _ hm
    rw [ea]
    refine PySem.W.kat_lt ho hd ho hd ?_
    rw [show decide (xs.size < xs.size) = false from decide_eq_false (Nat.lt_irrefl _)]
    refine kat_refl ⟨rfl, ?_⟩ _ _
    unfold ltS
    exact (decide_eq_false (List.lt_irrefl _)).symm
  · obtain ⟨a, o, t, xs, n, ea, ho, hc, hd, hx⟩ := hp _ hm
    obtain ⟨a', o', t', xs', n', ea', ho', hc', hd', hx'⟩ := hp _ hm'
    rw [ea, ea']
    rw [ea] at hx e
    rw [ea'] at hx' e
    refine PySem.W.kat_lt ho hd ho' hd' ?_
    cases e1 : xs.toList with
    | nil => rw [e1] at hx; simp at hx
    | cons y l =>
      cases e2 : xs'.toList with
      | nil => rw [e2] at hx'; simp at hx'
      | cons y' l' =>
        rw [e1] at hx
        rw [e2] at hx'
        simp at hx hx'
        subst hx hx'
        rw [List.zip_cons_cons]
        refine PySem.W.kat_cons (SeqAt.EqAt.str_str _ _ _ _ prog w _ _ ?_)
        refine PySem.W.kat_go (fun e3 => absurd (by simpa using e3) e) fun e3 => ?_
        exact PySem.W.kat_no (oneLt_str ⟨rfl, rfl⟩)
theorem row_firsts {h : Heap} {k : Value → Str} : ∀ {vs : List Value}, (∀ v ∈ vs, IsRow h v (k v)) → ∃ fs : List Value, PySem.W.KatTups h vs fs ∧ fs.length = vs.length ∧ ∀ f ∈ fs, ∃ x t, f = Value.str x t
  | [], _ => ⟨[], trivial, rfl, by simp⟩
  | v :: vs, hp => by
    obtain ⟨fs, h1, h2, h3⟩ := row_firsts (vs := vs) fun u m => hp u (.tail _ m)
    obtain ⟨a, o, t, xs, n, ea, ho, hc, hd, hx⟩ := hp v (.head _)
    refine ⟨.str (k v) t :: fs, ⟨⟨a, o, xs, n, ea, ho, hc, hd, ?_⟩, h1⟩, by simp [h2], fun f hf => ?_⟩
    · rw [← Array.getElem?_toList, ← List.head?_eq_getElem?]; exact hx
    · rcases List.mem_cons.mp hf with rfl | hf
      · exact ⟨_, _, rfl⟩
      · exact h3 f hf
theorem row_sortable {a : Addr} {vs : List Value} {k : Value → Str} (h0 : 0 < vs.length) (hp : ∀ v ∈ vs, IsRow s.heap v (k v)) (inj : ∀ v ∈ vs, ∀ u ∈ vs, k v = k u → v = u) (ha : ∀ o, s.heap.get? a = some o → o.cls ≠ .type "tuple") :
    SrtO.SortableO prog w A s a vs fun v u => ltS (k v) (k u) := by
  intro h' keep
  have hp' : ∀ v ∈ vs, IsRow h' v (k v) := fun v hm => (hp v hm).keeps fun b o e c => keep b o (fun z => by subst z; exact ha o e c) e
  obtain ⟨fs, h1, h2, h3⟩ := row_firsts hp'
  refine ⟨tuples' true, fun Q E hq => ?_, row_cmp (s := { s with heap := h' }) hp' inj⟩
  refine PySem.W.kat_kind (T := .type "str") h1 (by omega) (fun f hm => ?_) (by rfl) ?_
  · obtain ⟨x, t, rfl⟩ := h3 f hm
    exact PySem.W.Looks.of_pure rfl
  · rw [show (Value.type "str" != Value.type "tuple") = true by first | rfl | decide]
    exact hq
end
/-! ### as rules -/
def rSortedF (K : PySem.W.Frag) : List V → Hp → VK → Prop := fun vs H Q => ∃ (a : Addr) (xs : List V) (k : V → Str), vs = [V.ref a] ∧ (SqL K H a xs ∨ SqT K H a xs) ∧ (∀ x ∈ xs, ∃ t ws, x = V.ref t ∧ H t = some (.tup (V.str (k x) :: ws))) ∧ (∀ x ∈ xs, ∀ y ∈ xs, k x = k y → x = y) ∧
  ∀ ys p, ys.Perm xs → ys.Pairwise (fun x y => ltS (k y) (k x) = false) → H p = none → Q (.ref p) (upd H p (.lst ys))
section
variable {X : Cx}
theorem cr_sortedF : CallR X (.builtin "sorted") (rSortedF X.K) := by
  intro pins s σ H vs us Q I r h
  obtain ⟨a, xs, k, rfl, hs, hx, inj, q⟩ := h
  obtain ⟨u, rfl, ru⟩ := vals1 r
  obtain rfl : u = Value.ref a := ru
  obtain ⟨its, rv, hz, hcol⟩ : ∃ its : List Value, Vals xs its ∧ xs.length ≤ sizeLine ∧ ∀ {A : Around} {R : List Value → Shared → Prop} {E : Value → Shared → Prop}, R its { s with heap := gathered s.heap its } → wpAny (model X.prog X.w) A (collect (.ref a)) R E s := by
    rcases hs with hs | hs
    · obtain ⟨its, rv, hl, hz⟩ := I.list hs
      exact ⟨its, rv, hz, fun h => collect_list hl.isList h (by rw [← rv.length]; exact hz)⟩
    · obtain ⟨its, rv, hl, hz⟩ := I.tuple hs
      exact ⟨its, rv, hz, fun h => collect_tup hl (by rw [← rv.length]; exact hz) h⟩
  obtain ⟨e1, e2⟩ := refs_back rv fun x m => by
    obtain ⟨t, _, e, _⟩ := hx x m
    exact ⟨t, e⟩
  have hz' : its.length ≤ sizeLine := by rw [← rv.length]; exact hz
  have mem : ∀ v ∈ its, backV v ∈ xs := fun v hv => by rw [e1]; exact List.mem_map.mpr ⟨_, hv, rfl⟩
  have rows : ∀ v ∈ its, IsRow s.heap v (k (backV v)) := fun v hv => by
    obtain ⟨t, rfl⟩ := e2 v hv
    obtain ⟨t', ws, e, ht⟩ := hx _ (mem _ hv)
    cases e
    obtain ⟨_, its2, r2, o, ho, hc, n, hd⟩ := I.hok _ _ ht
    cases r2 with
    | cons r3 r4 =>
      obtain ⟨t1, rfl⟩ := r3
      exact ⟨t, o, t1, _, n, rfl, ho, hc, hd, by simp⟩
  have inj2 : ∀ v ∈ its, ∀ u ∈ its, k (backV v) = k (backV u) → v = u := fun v hv u hu e => by
    have e3 := inj _ (mem v hv) _ (mem u hu) e
    obtain ⟨t, rfl⟩ := e2 v hv
    obtain ⟨t', rfl⟩ := e2 u hu
    cases e3
    rfl
  refine sorted_of (ltS_swo fun v => k (backV v)) hz' hcol (fun h2 h₁ a' ha kk => ?_) fun out h1 h2 => ?_
  · refine row_sortable (s := { s with heap := h₁ }) (by omega) (fun v hm => (rows v hm).keeps fun b o e _ => (kk b o e).2) inj2 fun o e => ?_
    have e' : some o = some (seqObj "list" its.toArray 0) := e.symm.trans ha
    cases e'
    intro c
    exact absurd (Value.type.inj c) (by decide)
  · obtain ⟨ep, he'⟩ := sortedAll_at s.heap its out.toArray
    have h3 : ∀ u ∈ out, ∃ a, u = Value.ref a := fun u hu => e2 u (h2.perm.mem_iff.mp hu)
    have pm : (out.map backV).Perm xs := by rw [e1]; exact h2.perm.map _
    refine ⟨.ref _, upd H (s.heap.objs.size + 1) (.lst (out.map backV)), I.laid (t' := s.toks) (fun _ _ => sortedAll_old) (Nat.le_succ _) ⟨?_, out, ep, vals_back h3, he'⟩, rfl, q _ _ pm (List.pairwise_map.mpr h1) (I.hok.fresh (Nat.le_succ _))⟩
    rw [pm.length_eq]
    exact hz
end
section
variable {K : PySem.W.Frag} {b : Option Addr} {F H F' H' F'' H'' F0 H0 : Hp} {v : V} {vs : List V}
theorem Reps.perm_lift : ∀ {vs : List V} {ds : List D}, Reps K b F vs ds → ∀ {ws : List V}, ws.Perm vs → ∃ es, Reps K b F ws es ∧ es.Perm ds := by
  intro vs ds r ws p
  induction p generalizing ds with
  | nil => cases r; exact ⟨[], .nil, .refl _⟩
  | cons x _ ih =>
    cases r with
    | cons r1 r2 =>
      obtain ⟨es, h1, h2⟩ := ih r2
      exact ⟨_ :: es, .cons r1 h1, h2.cons _⟩
  | swap x y l =>
    cases r with
    | cons r1 r2 =>
      cases r2 with
      | cons r2 r3 => exact ⟨_, .cons r2 (.cons r1 r3), .swap ..⟩
  | trans _ _ ih1 ih2 =>
    obtain ⟨es, h1, h2⟩ := ih2 r
    obtain ⟨fs, h3, h4⟩ := ih1 h1
    exact ⟨fs, h3, h4.trans h2⟩
def rowF (r : Str × List D) : D := .tup (.str r.1 :: r.2)
def fSortF : List T → (T → Prop) → Prop := fun ts Q => ∃ (t : T) (rows : List (Str × List D)), ts = [t] ∧ (t.dl? = some (rows.map rowF) ∨ t = .st (.tup (rows.map rowF))) ∧ (rows.map (·.1)).Nodup ∧
  ∀ ys : List (Str × List D), ys.Perm rows → ys.Pairwise (fun x y => ltS y.1 x.1 = false) → Q (.st (.lst (ys.map rowF)))
/-- the first text of a tuple -/
def kF (F : Hp) : V → Str
  | .ref t => match F t with
    | some (.tup (.str n :: _)) => n
    | _ => ""
  | _ => ""
theorem kF_rows : ∀ {vs : List V} {rows : List (Str × List D)}, Reps K b F vs (rows.map rowF) → vs.map (kF F) = rows.map (·.1) ∧ ∀ x ∈ vs, ∃ t us, x = V.ref t ∧ F t = some (.tup (V.str (kF F x) :: us))
  | [], [], _ => ⟨rfl, by simp⟩
  | _, r :: rows, .cons h hs => by
    obtain ⟨h1, h2⟩ := kF_rows hs
    unfold rowF at h
    cases h with
    | tup e r1 =>
      cases r1 with
      | cons r2 r3 =>
        cases r2
        rename_i t ws
        have ek : kF F (.ref t) = r.1 := by simp only [kF, e]
        refine ⟨by rw [List.map_cons, List.map_cons, ek, h1], fun x hx => ?_⟩
        rcases List.mem_cons.mp hx with rfl | hx
        · exact ⟨t, ws, rfl, by rw [ek]; exact e⟩
        · exact h2 x hx
theorem soc_sortF : SoC K (rSortedF K) fSortF := fun b F H vs ts e gs Q' h Q q => by
  obtain ⟨t, rows, rfl, h1, h2, h3⟩ := h
  obtain ⟨v, rfl, g⟩ := gs.one
  obtain ⟨a, ws, rfl, z1, z2⟩ : ∃ a ws, v = .ref a ∧ (SqL K H a ws ∨ SqT K H a ws) ∧ Reps K b F ws (rows.map rowF) := by
    rcases h1 with h1 | rfl
    · obtain ⟨a, ws, rfl, z1, z2⟩ := g.dl e.1 h1
      exact ⟨a, ws, rfl, .inl (SqL.of z1), z2⟩
    · cases g.inv_st with
      | tup e1 r1 => exact ⟨_, _, rfl, .inr (.inl (.inl (e.1 _ _ e1))), r1⟩
  obtain ⟨k1, k2⟩ := kF_rows z2
  have nd : (ws.map (kF F)).Nodup := by rw [k1]; exact h2
  refine ⟨a, ws, kF F, rfl, z1, fun x hx => ?_, fun x hx y hy exy => ?_, fun ys p pm pw hn => ?_⟩
  · obtain ⟨t, us, e1, e2⟩ := k2 x hx
    exact ⟨t, us, e1, e.1 _ _ e2⟩
  · obtain ⟨i, hi, rfl⟩ := List.getElem_of_mem hx
    obtain ⟨j, hj, rfl⟩ := List.getElem_of_mem hy
    have := nodup_inj nd (i := i) (j := j) (by simpa using hi) (by simpa using hj) (by simpa using exy)
    subst this
    rfl
  · obtain ⟨es, r1, r2⟩ := z2.perm_lift pm
    obtain ⟨rows', p1, rfl⟩ := L2.perm_lift rowF r2 rows rfl
    obtain ⟨k3, _⟩ := kF_rows r1
    obtain ⟨S, g⟩ := Stp.got_new e hn r1
    refine q _ _ _ _ S g (h3 rows' p1 ?_)
    have pw2 : (ys.map (kF F)).Pairwise (fun x y => ltS y x = false) := List.pairwise_map.mpr pw
    rw [k3] at pw2
    exact List.pairwise_map.mp pw2
end
section
variable {K : PySem.W.Frag} {X : Cx} {a : Expr} {pos p : Pos} {tr : TA} {wr : AW}
theorem x_sortF (B : Bi X.mg) (hK : X.K = K) (ha : PAw K X [a] tr wr) (hg : Gl X "sorted" := by rfl) (he : starEach [a] X.env = (false, eval a X.env) :: starEach [] X.env := by rfl) (hpl : (backTo pos (starEach [] X.env)).any (·.1) = false := by rfl) : PEw K X (.Call (.Name "sorted" p) [a] [] pos) (tCB (rSortedF K) tr) (wCB fSortF wr) := by
  subst hK; exact ⟨pe_callB cr_sortedF hg B.sorted (by decide +kernel) ha.pe (by decide) (by decide) he hpl, so_cb ha.so soc_sortF⟩
end
end Pw
namespace Pw
open PySem PySem.Spec PyProof.Rows L2 PpSet
/-! ### sets of ints and texts that can be walked -/
def keyM (e : Int × Value) : Key := match e.2 with
  | .int k _ => .inl k
  | .str x _ => .inr x
  | _ => .inl 0
def GoodM (w : World) (e : Int × Value) : Prop := keyIs (keyM e) e.2 = true ∧ e.1 = keyH w (keyM e)
theorem keyM_is {k : Key} {v : Value} {n : Int} (h : keyIs k v = true) : keyM (n, v) = k := by
  rcases keyIs_shape h with ⟨i, t, rfl, rfl⟩ | ⟨x, t, rfl, rfl⟩ <;> rfl
/-- the members of the set at a are ks, in no order that is told -/
def SetM (w : World) (h : Heap) (a : Addr) (ks : List Key) : Prop := ∃ o es ep t, h.get? a = some o ∧ o.ExactSet ∧ o.data = .set es ep t ∧ (∀ e ∈ es.toList, GoodM w e) ∧ (es.toList.map keyM).Perm ks ∧ ks.Nodup ∧
  es.size < scanBound ∧ t.fits es.size = true ∧ Ris t.place.toList ∧ (w.params.followText "set-order" = true ∨ t.led = true)
def addK (ks : List Key) (k : Key) : List Key := if ks.any (fun j => decide (j = k)) = true then ks else ks ++ [k]
theorem addK_in {ks : List Key} {k : Key} (h : k ∈ ks) : addK ks k = ks := by
  unfold addK
  rw [if_pos (List.any_eq_true.mpr ⟨k, h, by simp⟩)]
theorem addK_new {ks : List Key} {k : Key} (h : k ∉ ks) : addK ks k = ks ++ [k] := by
  unfold addK
  rw [if_neg]
  simp only [List.any_eq_true, not_exists, not_and, decide_eq_true_eq]
  exact fun j m e => h (e ▸ m)
section
variable {P : Program} {w : World} {h h' : Heap} {a : Addr} {ks : List Key} {A : Around} {E : Value → Shared → Prop} {s : Shared}
theorem SetM.at (R : SetM w h a ks) (k : ∀ o, h.get? a = some o → h'.get? a = some o) : SetM w h' a ks := by
  obtain ⟨o, es, ep, t, ho, r⟩ := R
  exact ⟨o, es, ep, t, k o ho, r⟩
theorem goodM_key {e : Int × Value} (g : GoodM w e) (k : Key) : (mixKind P w).is k e.2 = true ↔ keyM e = k :=
  ⟨fun h => keyM_is (n := e.1) h, fun h => h ▸ g.1⟩
theorem scan_key {k : Key} {v : Value} (h : keyIs k v = true) : v.scannable = true := by
  rcases keyIs_shape h with ⟨i, t, rfl, rfl⟩ | ⟨x, t, rfl, rfl⟩ <;> rfl
theorem goodM_elems {l : List (Int × Value)} (g : ∀ e ∈ l, GoodM w e) : ElemsOf (mixKind P w) l := fun e he => ⟨⟨keyM e, (g e he).1, (g e he).2⟩, scan_key (g e he).1⟩
theorem setM_tail {f : Bool → Sem Unit} (hf : ∀ (b : Bool) (s₁ : Shared) (Q' : Unit → Shared → Prop), Q' () s₁ → wpAny (model P w) A (f b) Q' E s₁)
    {o : Obj} {es es1 : Array (Int × Value)} {ep : Nat} {t t2 : SetTable} (ho : s.heap.get? a = some o) (hx : o.ExactSet) (hd : o.data = .set es ep t) (g1 : ∀ e ∈ es1.toList, GoodM w e) (pm1 : (es1.toList.map keyM).Perm ks) (nd : ks.Nodup)
    (hb : es1.size < scanBound) (ft : t2.fits es1.size = true) (hr : Ris t2.place.toList) (hl : w.params.followText "set-order" = true ∨ t2.led = true) {wd : Bool} {R : Option Bool → Shared → Prop}
    (q : ∀ h', Heap.SameBut a s.heap h' → SetM w h' a ks → R (some true) { s with heap := h' }) :
    wpAny (model P w) A (do
        storeSet a es1 t2
        if (!wd && t2.tooFull) = true then do
            f (relayAll t2 es1 (SetTable.grown es1.size)).2.2
            storeSet a (relayAll t2 es1 (SetTable.grown es1.size)).1 (relayAll t2 es1 (SetTable.grown es1.size)).2.1
            pure (some true)
          else pure (some true)) R E s := by
  refine wpAny_bind (wpAny_storeSet_of ho hd ?_ (fits_of_scanBound hb))
  have o1 : (s.heap.update a (Obj.putSet es1 t2)).get? a = some { o with data := .set es1 (ep + 1) t2 } := storeB_at ho hd
  have b1 := Heap.SameBut.update s.heap a (Obj.putSet es1 t2)
  by_cases c : (!wd && t2.tooFull) = true
  · rw [if_pos c]
    have z1 := relayAll_perm t2 es1 (SetTable.grown es1.size)
    have z2 := relayAll_fits t2 es1 (SetTable.grown es1.size)
    have z3 := relayAll_ris t2 es1 (SetTable.grown es1.size)
    have z4 := relayAll_led t2 es1 (SetTable.grown es1.size)
    generalize relayAll t2 es1 (SetTable.grown es1.size) = Z at z1 z2 z3 z4 ⊢
    obtain ⟨es2, t3, gave⟩ := Z
    dsimp only at z1 z2 z3 z4 ⊢
    have sz : es2.size = es1.size := by rw [← Array.length_toList, ← Array.length_toList, z1.length_eq]
    refine wpAny_bind (hf _ _ _ ?_)
    refine wpAny_bind (wpAny_storeSet_of o1 rfl ?_ (fits_of_scanBound (by rw [sz]; exact hb)))
    refine wpAny_pure (q _ (b1.trans (Heap.SameBut.update _ a (Obj.putSet es2 t3))) ?_)
    exact ⟨_, es2, _, t3, storeB_at o1 rfl, hx, rfl, fun e he => g1 e (z1.mem_iff.mp he), (z1.map keyM).trans pm1, nd, by rw [sz]; exact hb, z2, z3, hl.imp id fun z => by rw [z4]; exact z⟩
  · rw [if_neg c]
    exact wpAny_pure (q _ b1 ⟨_, es1, _, t2, o1, hx, rfl, g1, pm1, nd, hb, ft, hr, hl⟩)
theorem setM_hashed {k : Key} {v : Value} {Q : Bool → Shared → Prop} (R : SetM w s.heap a ks) (hk : keyIs k v = true) (room : ks.length + 1 < scanBound)
    (q : ∀ (c : Bool) h', Heap.SameBut a s.heap h' → SetM w h' a (addK ks k) → Q c { s with heap := h' }) :
    wpAny (model P w) A (setAddHashed a v ((mixKind P w).hash k)) Q E s := by
  obtain ⟨o, es, ep, t, ho, hx, hd, g, pm, nd, hb, ft, hr, hl⟩ := R
  have sc := scan_key hk
  have el : ElemsOf (mixKind P w) es.toList := goodM_elems g
  have le : es.size = ks.length := by rw [← Array.length_toList, ← List.length_map (f := keyM), pm.length_eq]
  unfold setAddHashed setAddHashedIn
  refine wpAny_holding (wpAny_bind (wpAny_setState_of ho hd ft ?_))
  dsimp only
  rw [byScan_of sc hb el]
  simp only [↓reduceIte]
  unfold setAddByScan
  refine wpAny_bind (wpAny_bind (wpAny_rule (wpAny_bind (wpAny_setScan_of (show (mixKind P w).is k v = true from hk) ho hd ft el ?_))))
  cases fi : List.findIdx? (fun e => (mixKind P w).is k e.2) es.toList with
  | some j =>
    obtain ⟨hj, pj, _⟩ := List.findIdx?_eq_some_iff_getElem.mp fi
    have m : k ∈ ks := pm.mem_iff.mp (List.mem_map.mpr ⟨_, List.getElem_mem hj, (goodM_key (P := P) (g _ (List.getElem_mem hj)) k).mp pj⟩)
    refine wpAny_pure (wpAny_pure (q _ s.heap (.refl a s.heap) ?_))
    rw [addK_in m]
    exact ⟨o, es, ep, t, ho, hx, hd, g, pm, nd, hb, ft, hr, hl⟩
  | none =>
    have m : k ∉ ks := fun z => by
      obtain ⟨e, he, ek⟩ := List.mem_map.mp (pm.mem_iff.mpr z)
      have c := List.findIdx?_eq_none_iff.mp fi e he
      rw [(goodM_key (P := P) (g e he) k).mpr ek] at c
      cases c
    have way : ∀ (c : Bool) {s₁ : Shared} {Q' : Unit → Shared → Prop}, Q' () s₁ → wpAny (model P w) A (match c with | true => rule "set.scan.the-table-gave-way" | false => pure ()) Q' E s₁ :=
      fun c s₁ Q' z => by cases c <;> first | exact wpAny_pure z | exact wpAny_rule z
    have n1 := layNew_perm t es ((mixKind P w).hash k) v
    have n2 := layNew_fits t es ((mixKind P w).hash k) v
    have n3 := layNew_ris t es ((mixKind P w).hash k) v hr
    have n4 := layNew_led t es ((mixKind P w).hash k) v
    dsimp only
    generalize layNew t es ((mixKind P w).hash k) v = Z at n1 n2 n3 n4 ⊢
    obtain ⟨es1, t1, wd, gave⟩ := Z
    dsimp only at n1 n2 n3 n4 ⊢
    rw [Array.toList_push] at n1
    have pc : es1.toList.Perm (es.toList ++ [((mixKind P w).hash k, v)]) := n1
    have ek : keyM ((mixKind P w).hash k, v) = k := keyM_is hk
    have p1 : (es1.toList.map keyM).Perm (addK ks k) := by
      rw [addK_new m]
      refine (pc.map keyM).trans ?_
      rw [List.map_append, List.map_cons, List.map_nil, ek]
      exact pm.append_right _
    have g1 : ∀ e ∈ es1.toList, GoodM w e := fun e he => by
      rcases List.mem_append.mp (pc.mem_iff.mp he) with z | z
      · exact g e z
      · rw [List.mem_singleton.mp z]
        exact ⟨by rw [ek]; exact hk, by rw [ek]; rfl⟩
    have nd1 : (addK ks k).Nodup := by
      rw [addK_new m]
      exact List.nodup_append.mpr ⟨nd, by simp, fun x hx y hy e => by
        rw [List.mem_singleton.mp hy] at e
        exact m (e ▸ hx)⟩
    have hb1 : es1.size < scanBound := by
      have : es1.size = es.size + 1 := by rw [← Array.length_toList, pc.length_eq]; simp
      omega
    have hl1 : w.params.followText "set-order" = true ∨ t1.led = true := hl.imp id fun z => by rw [n4]; exact z
    refine wpAny_bind (way _ ?_)
    split
    · refine wpAny_bind ?_
      rw [hashByValue_scannable 8 sc]
      refine wpAny_pure (setM_tail ?_ ho hx hd g1 p1 nd1 hb1 ?_ ?_ ?_ ?_)
      · intro c s₁ Q' z; cases c <;> first | exact wpAny_pure z | exact wpAny_rule z
      · first | (split <;> first | exact n2 | exact SetTable.fits_plain_off n2) | exact n2
      · first | (split <;> exact n3) | exact n3
      · first | (split <;> exact hl1) | exact hl1
      · intro h' sb r; dsimp only; exact wpAny_pure (q _ h' sb r)
    · refine wpAny_bind (wpAny_pure ?_)
      simp only [↓reduceIte]
      refine setM_tail ?_ ho hx hd g1 p1 nd1 hb1 n2 n3 hl1 ?_
      · intro c s₁ Q' z; cases c <;> first | exact wpAny_pure z | exact wpAny_rule z
      · intro h' sb r; dsimp only; exact wpAny_pure (q _ h' sb r)
theorem setM_add {k : Key} {v : Value} {Q : Value → Shared → Prop} (R : SetM w s.heap a ks) (hk : keyIs k v = true) (room : ks.length + 1 < scanBound)
    (q : ∀ h', Heap.SameBut a s.heap h' → SetM w h' a (addK ks k) → Q .none { s with heap := h', toks := s.toks + 1 }) :
    wpAny (model P w) A (call (.builtin "set.add") [.ref a, v]) Q E s := by
  have ty : s.TypeIs (.ref a) "set" := by
    obtain ⟨o, es, ep, t, ho, hx, _⟩ := R
    exact ⟨o, ho, hx.1⟩
  refine wpAny_call_entry F.slot_set_add ty F.entry_set_add ?_ (F.args_set_add_2 _ _)
  unfold Builtin.«set.add» Builtin.Frozenset.oneOther
  simp only [List.isEmpty_nil, bind_assoc]
  unfold Builtin.Frozenset.addrOf setAdd
  refine wpAny_bind (wpAny_pure ?_)
  try dsimp only
  refine wpAny_bind (wpAny_pure ?_)
  try dsimp only
  refine wpAny_bind (wpAny_holding (wpAny_bind ((mixKind P w).pyHash (show (mixKind P w).is k v = true from hk) ?_)))
  refine setM_hashed (s := { s with toks := s.toks + 1 }) R hk room fun c h' sb r => ?_
  exact wpAny_pure ⟨_, rfl, q h' sb r⟩
theorem setM_fresh {h : Heap} (w : World) : SetM w (h.push { cls := .type "set", dict := none, data := .set #[] 0 (.fresh 0 0 (!w.params.followText "set-order")) }) h.objs.size [] := by
  refine ⟨_, #[], 0, _, Heap.get?_push_size _ rfl, ⟨rfl, rfl, rfl⟩, rfl, (fun e he => by simp at he), by simp, List.nodup_nil, by decide, by rfl, List.Pairwise.nil, ?_⟩
  show _ ∨ (!w.params.followText "set-order") = true
  cases w.params.followText "set-order" <;> simp
end
/-- the set at a, told of in the abstract heap -/
def SetMO (w : World) (a : Addr) (ks : List Key) : HO := .ext fun h => SetM w h a ks
theorem setMO_new {w : World} {P : Program} {H : Hp} {h : Heap} {a : Addr} {ks : List Key} (R : SetM w h a ks) : ObjOk P w H h a (SetMO w a ks) := by
  have ⟨o, _, _, _, ho, _⟩ := R
  exact ⟨R, ⟨o, ho⟩, fun h1 h2 p k => SetM.at p k⟩
section
variable {X : Cx} {pins : List (Addr × Obj)} {σ : L2.St} {H : Hp} {s : Shared}
theorem setMO_get {a : Addr} {ks : List Key} (I : Inv X pins σ H s) (ha : H a = some (SetMO X.w a ks)) : SetM X.w s.heap a ks := (I.hok a _ ha).1
theorem setMO_add {E : Value → Shared → Prop} {D : Addr} {ks : List Key} {k : Key} {v : Value} {Q : Value → Shared → Prop} (I : Inv X pins σ H s) (hD : H D = some (SetMO X.w D ks)) (hk : keyIs k v = true) (room : ks.length + 1 < scanBound)
    (q : ∀ s', Inv X pins σ (upd H D (SetMO X.w D (addK ks k))) s' → Q .none s') : wpAny (model X.prog X.w) X.A (call (.builtin "set.add") [.ref D, v]) Q E s := by
  refine setM_add (setMO_get I hD) hk room fun h' sb new => ?_
  have ex : ∃ u, h'.get? D = some u := by
    have ⟨o, _, _, _, ho, _⟩ := new
    exact ⟨o, ho⟩
  exact q _ (I.write (e := D) (t' := s.toks + 1) (by rw [hD]; trivial) (.inl rfl) (fun b u hb hu => (sb.2 b hb).trans hu) ex (setMO_new new))
end
end Pw
namespace Pw
open PySem PySem.Spec PyProof.Rows L2 PpSet
theorem relV_key {k : Key} {v : Value} (r : RelV (kV k) v) : keyIs k v = true := by
  cases k with
  | inl i => obtain ⟨t, rfl⟩ := r; exact keyIs_int i t
  | inr x => obtain ⟨t, rfl⟩ := r; exact keyIs_str x t
/-! ### {.. for ..}, sorted -/
def stM (w : World) : V → Hp → Addr → (Hp → Prop) → Prop := fun y H D N => ∃ ks k, y = kV k ∧ H D = some (SetMO w D ks) ∧ ks.length + 1 < scanBound ∧ N (upd H D (SetMO w D (addK ks k)))
def tScM (w : World) (wi : TI) (g : TG) (tt : TT) (te : TE) (vs : List Nat) : TE := fun σ H Q => wi σ H fun J H1 => ∀ D, H1 D = none → ∃ W : Nat → Nat → Hp → Prop, (∃ m, W 0 m (upd H1 D (SetMO w D []))) ∧ ∀ i m H, W i m H →
  (J.stop i H ∧ Q (.ref D) H) ∨ J.go i H ∧ ∃ N : Hp → Prop, (∀ H', N H' → ∃ m', m' < m ∧ W (i + 1) m' H') ∧
    ∀ x H', J.yld i H x H' → g x (L2.wipe σ vs) H' fun σ2 H2 => L2.wipe σ2 vs = L2.wipe σ vs ∧ tt σ2 H2 fun c H3 => if c = true then te σ2 H3 fun y H4 => stM w y H4 D N else N H3
section
variable {X : Cx} {elt tg iter : Expr} {ifs : List Expr} {scope : Scope} {own : List (Str × Nat)} {pos : Pos} {wi : TI} {g : TG} {tt : TT} {te : TE}
theorem scM_core {pins : List (Addr × Obj)} {s0 : Shared} {σ : L2.St} {H : Hp} {Q : VK} {pos' : Pos} {use : Option (Value → Sem Unit)} {Qf : Value → Shared → Prop} (hc : X.calm = true) (hN : X.N.Nodup) (I0 : Inv X pins σ H s0) (hi : PI X tg iter wi) (ok : BlkOk X.N X.env.scope scope own)
    (hg : Blk X scope fun Y => PG Y tg g) (ht : Blk X scope fun Y => PTs Y ifs tt) (he : Blk X scope fun Y => PE Y elt te) (hs : ∀ x, foldedSetIterable iter X.env x = pure x)
    (h0 : tScM X.w wi g tt te (own.map (·.2)) σ H Q) (fin : ∀ D C s' m H', Inv X pins σ H' s' → Q (.ref D) H' → s'.heap.Ns C m → FpOk X pins H' C → compPost (model X.prog X.w) X.A X.xe use Qf (.ref D) C (.ok .next) s') :
    wpAny (model X.prog X.w) X.A (comprehension (.SetComp elt [⟨tg, iter, ifs, 0⟩] scope pos) scope X.env pos' (newSet (.type "set")) false (eval iter X.env) use) Qf X.xe s0 := by
  have fr : ∀ y ∈ scope.names, y.2 = .free → ∃ c, X.env.cells.lookup y.1 = some c := by
    intro y hy e
    have := ok.free y hy e
    exact I0.ok.has _ this
  have un : ∀ x ∈ scope.names, x.2 = .local → scope.names.lookup x.1 = some .local := fun x hx e => e ▸ ok.uniq x hx
  refine wpAny_comprehension_free rfl hs (closure_ok fr) ok.kind un ?_
  refine thn (hi.run pins s0 σ H _ I0 h0) fun v1 s1 w1 => thn w1 fun v2 s2 w2 => ?_
  obtain ⟨it, fp, tn, J, H2, rfl, I2, T, t2, f2, w2⟩ := w2
  refine newSet_ok (newEnv_comp ?_)
  have big := I2.big
  obtain ⟨W, ⟨m0, w0⟩, turn⟩ := w2 s2.heap.objs.size (I2.hok.fresh (Nat.le_refl _))
  -- the dict, still empty
  have J3 : Inv X pins σ (upd H2 s2.heap.objs.size (SetMO X.w s2.heap.objs.size [])) { s2 with heap := s2.heap.push { cls := .type "set", dict := none, data := .set #[] 0 (.fresh 0 0 (!X.w.params.followText "set-order")) } } :=
    I2.laid (t' := s2.toks) (fun c o e => Heap.get?_push_of_some _ e) (Nat.le_refl _) (setMO_new (setM_fresh X.w))
  have low : ∀ c ∈ fp, c < s2.heap.objs.size := fun c m => let ⟨o, e, _⟩ := T.obj _ _ t2 c m; Heap.lt_size e
  generalize eD : s2.heap.objs.size = D at *
  generalize e3 : ({ s2 with heap := s2.heap.push { cls := .type "set", dict := none, data := .set #[] 0 (.fresh 0 0 (!X.w.params.followText "set-order")) } } : Shared) = s3 at *
  have hp3 : s3.heap = s2.heap.push { cls := .type "set", dict := none, data := .set #[] 0 (.fresh 0 0 (!X.w.params.followText "set-order")) } := by rw [← e3]
  have f3 : ∀ c ∈ fp, FpOk X pins (upd H2 D (SetMO X.w D [])) c ∧ c < s3.heap.objs.size := by
    intro c m
    have lt := low c m
    have ne : c ≠ D := Nat.ne_of_lt lt
    refine ⟨⟨?_, (f2 c m).2⟩, ?_⟩
    · rw [upd_ne ne]; exact (f2 c m).1
    · rw [hp3, Heap.size_push, eD]; exact Nat.lt_succ_of_lt lt
  have t3 : tn 0 s3.heap := T.keep _ _ _ t2 fun c _ o e => by rw [hp3]; exact Heap.get?_push_of_some _ e
  generalize eH : upd H2 D (SetMO X.w D []) = H3 at *
  have J4 := block_start J3 ok hN f3
  have q1 := hg s3 H3 s3.heap.objs.size (cellsFrom (s3.heap.objs.size + 1) scope.names (cloFrom X.env.cells scope.names [])) fp
  have q2 := ht s3 H3 s3.heap.objs.size (cellsFrom (s3.heap.objs.size + 1) scope.names (cloFrom X.env.cells scope.names [])) fp
  have q3 := he s3 H3 s3.heap.objs.size (cellsFrom (s3.heap.objs.size + 1) scope.names (cloFrom X.env.cells scope.names [])) fp
  show codeAny _ _ (.compStart (.SetComp elt [⟨tg, iter, ifs, 0⟩] scope pos) 0 (.ref it) (.ref D) (compEnvC scope (cellsFrom (s3.heap.objs.size + 1) scope.names (cloFrom X.env.cells scope.names [])) s3.heap.objs.size X.env)) (compPost (model X.prog X.w) X.A X.xe use Qf (.ref D) s3.heap.objs.size) { s3 with heap := pushCells (s3.heap.push { cls := .type "dict", data := .dict #[] }) scope.names }
  generalize eE : compEnvC scope (cellsFrom (s3.heap.objs.size + 1) scope.names (cloFrom X.env.cells scope.names [])) s3.heap.objs.size X.env = env at J4 q1 q2 q3 ⊢
  have locE : env.locals = s3.heap.objs.size := by rw [← eE]; rfl
  generalize e4 : ({ s3 with heap := pushCells (s3.heap.push { cls := .type "dict", data := .dict #[] }) scope.names } : Shared) = s4 at J4 ⊢
  have t4 : tn 0 s4.heap := T.keep _ _ _ t3 fun c _ o e => by
    rw [← e4]
    exact pushCells_keeps _ _ _ _ (Heap.get?_push_of_some _ e)
  have free3 : ∀ c ∈ fp, H3 c = none := fun c m => (f3 c m).1.1
  have stay : ∀ {σ' : L2.St} {H' : Hp} {s' : Shared}, Inv (X.blk s3 H3 scope env fp) [] σ' H' s' → (∀ c ∈ fp, H' c = none) → ∀ c ∈ fp, FpOk (X.blk s3 H3 scope env fp) [] H' c := by
    intro σ' H' s' K hn c m
    have ex := K.ok.exf c m
    exact ⟨hn c m, ex.1, K.ok.exfs c m, .inl m, ex.2, fun p hp => by cases hp⟩
  -- in the def again
  have back : ∀ {H' : Hp} {s' : Shared}, Inv (X.blk s3 H3 scope env fp) [] (L2.wipe σ (own.map (·.2))) H' s' → Q (.ref D) H' → compPost (model X.prog X.w) X.A X.xe use Qf (.ref D) s3.heap.objs.size (.ok .next) s' := by
    intro H' s' K hq
    have K2 : Inv X pins σ H' s' := J3.call' (ch := fp) K.os K.base K.hok K.bare fun c m => by
      obtain ⟨_, a1, _, a2, a3, a4⟩ := (f3 c m).1
      exact ⟨a2, a1, a3, a4⟩
    have nl : H' s3.heap.objs.size = none := by
      have := K.free
      rw [← locE]
      exact this
    obtain ⟨mm, hm, _⟩ := K.loc
    have hm : s'.heap.Ns env.locals mm := hm
    rw [locE] at hm
    exact fin D _ s' mm H' K2 hq hm (J3.fpOk (Nat.le_refl _) nl)
  have loop : codeAny (model X.prog X.w) X.A (.compLoop (.SetComp elt [⟨tg, iter, ifs, 0⟩] scope pos) 0 (.ref it) (.ref D) env) (compPost (model X.prog X.w) X.A X.xe use Qf (.ref D) s3.heap.objs.size) s4 := by
    refine compLoopS_any (fun n s' => ∃ i H', Inv (X.blk s3 H3 scope env fp) [] (L2.wipe σ (own.map (·.2))) H' s' ∧ tn i s'.heap ∧ (∀ c ∈ fp, H' c = none) ∧ W i n H') ?_ m0 ⟨0, H3, J4, t4, free3, w0⟩
    rintro n sa ⟨i, Ha, Ja, ta, fa, wa⟩
    rcases turn i n Ha wa with ⟨hstop, hq⟩ | ⟨hgo, N, hN, step⟩
    · refine thnF (T.done (X.blk s3 H3 scope env fp) rfl rfl rfl hc i [] sa _ Ha _ Ja (stay Ja fa) ta hstop) fun r sb ⟨er, Jb⟩ => ?_
      subst er
      exact back Jb hq
    · refine thnF (T.item (X.blk s3 H3 scope env fp) rfl rfl rfl hc i [] sa _ Ha _ Ja (stay Ja fa) ta hgo) fun r sb ⟨u, er, wb⟩ => ?_
      subst er
      refine thnF wb fun _ sc ⟨x, Hc, Jc, rc, yc, tc, fc⟩ => ?_
      have pc := Jc.pinned (stay Jc fc) (T.obj _ _ tc)
      refine thnF (q1.run _ sc _ Hc x u _ pc rc (step x Hc yc)) fun _ sd ⟨σd, Hd, Jd, wd, pd⟩ => ?_
      refine thnF (q2.run _ sd σd Hd _ Jd pd) fun c se ⟨He, Je, pe⟩ => ?_
      -- the turn is done
      have turned : ∀ {s' : Shared} {H' : Hp}, Inv (X.blk s3 H3 scope env fp) ([] ++ pinsAt fp sc.heap) σd H' s' → N H' → ∃ m, m < n ∧ ∃ i H', Inv (X.blk s3 H3 scope env fp) [] (L2.wipe σ (own.map (·.2))) H' s' ∧ tn i s'.heap ∧ (∀ c ∈ fp, H' c = none) ∧ W i m H' := by
        intro s' H' K hn
        obtain ⟨m', lt, w'⟩ := hN H' hn
        have kept : ∀ c ∈ fp, ∀ o, sc.heap.get? c = some o → s'.heap.get? c = some o ∧ H' c = none := by
          intro c m o e
          have z := K.pin (c, o) (List.mem_append_right _ (List.mem_append_right _ (mem_pinsAt m e)))
          exact ⟨z.1, z.2.1⟩
        have ll : (L2.wipe σ (own.map (·.2))).length = σd.length := by rw [← wd, L2.wipe_length]
        refine ⟨m', lt, i + 1, H', K.unpinned.weak ll (fun k v e => ?_), T.keep _ _ _ tc fun c m o e => (kept c m o e).1, fun c m => ?_, w'⟩
        · rw [← wd] at e
          exact (wipe_some e).1
        · obtain ⟨o, e, _⟩ := T.obj _ _ tc c m
          exact (kept c m o e).2
      cases c with
      | false => exact turned Je pe
      | true =>
        refine thnF (q3.run _ se σd He _ Je pe) fun z1 sf ⟨yk, Hf, Jf, rf, ks, k, ey, hk1, hk2, hk3⟩ => ?_
        subst ey
        exact setMO_add (X := X.blk s3 H3 scope env fp) Jf hk1 (relV_key rf) hk2 fun s' K => turned K hk3
  exact codeAny_compStart_set loop (T.self X.A 0 _ _ _ t4 loop)
theorem pe_scM (hc : X.calm = true) (hN : X.N.Nodup) (hi : PI X tg iter wi) (ok : BlkOk X.N X.env.scope scope own)
    (hg : Blk X scope fun Y => PG Y tg g) (ht : Blk X scope fun Y => PTs Y ifs tt) (he : Blk X scope fun Y => PE Y elt te) (hs : ∀ x, foldedSetIterable iter X.env x = pure x := by intro _; rfl) :
    PE X (.SetComp elt [⟨tg, iter, ifs, 0⟩] scope pos) (tScM X.w wi g tt te (own.map (·.2))) := by
  constructor
  intro pins s0 σ H Q I0 h0
  rw [eval_SetComp]
  refine scM_core hc hN I0 hi ok hg ht he hs h0 fun D C s' m H' K hq hm hf => ⟨m, hm, fun hp sb => ?_⟩
  obtain ⟨b0, b1, _, b3, b4, b5⟩ := hf
  exact ⟨.ref D, H', K.turned (t' := s'.toks) (fun c o ne e => (sb.2 c ne).trans e) b0 b1 b3 b4 b5, rfl, hq⟩
end
end Pw
namespace Pw
open PySem PySem.Spec PyProof.Rows L2 PpSet
/-! ### texts sorted -/
section
variable {P : Program} {w : World} {A : Around} {E : Value → Shared → Prop} {s : Shared} {a : Addr} {vs : List Value}
def txt (v : Value) : Str := strOf v
theorem strs_sortable (hS : ∀ v ∈ vs, ∃ x t, v = .str x t) (h2 : 2 ≤ vs.length) : SrtO.SortableO P w A s a vs fun v u => ltS (txt v) (txt u) := by
  intro h' _
  refine ⟨oneType', fun Q E hq => ?_, fun p q hp hq => ?_⟩
  · have h := strsAre_map vs hS
    match vs, h, h2 with
    | v1 :: v2 :: rest, h, _ =>
      rw [keyKind_strs h]
      exact wpAny_pure hq
    | [], _, h2 => exact absurd h2 (by decide)
    | [v], _, h2 => exact absurd h2 (by simp)
  · obtain ⟨x, t, e⟩ := hS _ hp
    obtain ⟨y, u, e'⟩ := hS _ hq
    show wpAny (model P w) A (keyLt' oneType' p.1 q.1) (fun r s' => s' = _ ∧ r = ltS (txt p.1) (txt q.1)) (fun _ _ => False) _
    rw [e, e', keyLt'_oneType]
    exact oneLt_str ⟨rfl, rfl⟩
theorem srtd_strs {ys : List Str} (h : ys.Pairwise fun x y => ltS y x = false) : sortedS ys = true := by
  refine sortedS_of_pairwise _ (h.imp fun {x y} z => ?_)
  unfold ltS at z
  rw [ltCps_eq]
  exact z
theorem txt_strs : ∀ {vs : List Value}, (∀ v ∈ vs, ∃ x t, v = Value.str x t) → Vals ((vs.map txt).map V.str) vs
  | [], _ => .nil
  | v :: vs, h => by
    obtain ⟨x, t, rfl⟩ := h v (.head _)
    exact .cons ⟨t, rfl⟩ (txt_strs fun u m => h u (.tail _ m))
end
def rSortM (w : World) : List V → Hp → VK → Prop := fun vs H Q => ∃ (a : Addr) (xs : List Str), vs = [V.ref a] ∧ H a = some (SetMO w a (xs.map Sum.inr)) ∧ xs.length ≤ 100000 ∧ ∀ (ys : List Str) (p : Addr), ys.Perm xs → sortedS ys = true → H p = none → Q (.ref p) (upd H p (.lst (ys.map V.str)))
section
variable {X : Cx}
theorem cr_sortM (hc : X.calm = true) : CallR X (.builtin "sorted") (rSortM X.w) := by
  intro pins s σ H vs us Q I r h
  obtain ⟨a, xs, rfl, ha, hz, q⟩ := h
  obtain ⟨o, es, ep, t, ho, hx, hd, g, pm, nd, hb, hf, hr, hl⟩ := setMO_get I ha
  rw [Vals.ref1 r]
  have zl : xs.length ≤ sizeLine := by rw [sizeLine_eq]; omega
  refine Calls.call_function_entry kind_sorted plain_sorted entry_sorted (args_sorted1 _) ?_
  unfold Builtin.«sorted»
  refine wpAny_bind (m := checkCount "sorted" 1 1 _) (wpAny_pure ?_)
  refine wpAny_bind (collect_set (I.ok.hd hc) ⟨o, ho, hx.1, hd⟩ hf hb hr hl fun s1 vs k1 hz1 g1 o1 p1 => ?_)
  have hS : ∀ v ∈ vs, ∃ x t, v = Value.str x t := fun v hv => by
    obtain ⟨e, he, rfl⟩ := List.mem_map.mp (p1.mem_iff.mp hv)
    have m : keyM e ∈ xs.map Sum.inr := pm.mem_iff.mp (List.mem_map.mpr ⟨e, he, rfl⟩)
    obtain ⟨x, _, ex⟩ := List.mem_map.mp m
    have z := (g e he).1
    rw [← ex] at z
    rcases keyIs_shape z with ⟨i, t, e1, _⟩ | ⟨y, t, _, e2⟩
    · cases e1
    · exact ⟨y, t, e2⟩
  have pt : (vs.map txt).Perm xs := by
    have q1 : (vs.map txt).Perm (es.toList.map fun e => txt e.2) := by
      have := p1.map txt
      rw [List.map_map] at this
      exact this
    have q2 : ((es.toList.map fun e => txt e.2).map Sum.inr : List Key).Perm (xs.map Sum.inr) := by
      refine List.Perm.trans (List.Perm.of_eq ?_) pm
      rw [List.map_map]
      refine List.map_congr_left fun e he => ?_
      obtain ⟨x, t, e2⟩ := hS e.2 (p1.mem_iff.mpr (List.mem_map.mpr ⟨e, he, rfl⟩))
      have z := (g e he).1
      rw [e2] at z
      have := keyM_is (n := e.1) z
      show Sum.inr (txt e.2) = keyM e
      rw [e2]
      unfold keyM
      rw [e2]
      rfl
    exact q1.trans (by
      obtain ⟨l, h1, h2⟩ := L2.perm_lift (Sum.inr : Str → Key) q2 xs rfl
      have : l = es.toList.map fun e => txt e.2 := List.map_inj_right (fun _ _ h => Sum.inr.inj h) |>.mp h2
      rw [← this]; exact h1)
  have lv : vs.length ≤ sizeLine := by rw [← List.length_map (f := txt), pt.length_eq]; exact zl
  refine wpAny_bind (wpAny_newList ?_ lv)
  have hoL : (s1.heap.push (seqObj "list" vs.toArray 0)).get? s1.heap.objs.size = some (seqObj "list" vs.toArray 0) := Heap.get?_push_size _ rfl
  refine wpAny_bind (wpAny_holding (wpAny_call_entry slot_list_sort ⟨_, hoL, rfl⟩ entry_list_sort (SrtO.list_sort_ord (ltS_swo txt) hoL lv (fun h2 => strs_sortable hS h2) fun out h1 h2 => ⟨_, rfl, ?_⟩) (args_list_sort _)))
  obtain ⟨c, hc'⟩ := sortedHeap_at (vs := vs) (out := out.toArray) hoL
  have hO : ∀ v ∈ out, ∃ x t, v = Value.str x t := fun v hv => hS v (h2.perm.mem_iff.mp hv)
  have po : (out.map txt).Perm xs := (h2.perm.map txt).trans pt
  have hn : H s1.heap.objs.size = none := I.hok.fresh hz1
  have kp : ∀ b u, s.heap.get? b = some u → (sortedHeap (s1.heap.push (seqObj "list" vs.toArray 0)) s1.heap.objs.size vs out.toArray).get? b = some u := fun b u e => by
    have e2 := k1 b u e
    have lt := Heap.lt_size e2
    rw [sortedHeap_old (Nat.ne_of_lt lt) (by rw [size_push']; exact Nat.lt_succ_of_lt lt)]
    exact Heap.get?_push_of_some _ e2
  have J : Inv X pins σ (upd H s1.heap.objs.size (.lst ((out.map txt).map V.str))) { s with heap := sortedHeap (s1.heap.push (seqObj "list" vs.toArray 0)) s1.heap.objs.size vs out.toArray, gens := s1.gens, drawn := s1.drawn, toks := s1.toks } :=
    I.call (ch := []) (Un.laid kp hz1 hn) (I.hok.laid kp hz1 ⟨by rw [List.length_map, po.length_eq]; exact zl, out, c, txt_strs hO, hc'⟩) (by rw [g1]; exact I.bare) (fun _ z => nomatch z)
  refine wpAny_pure ⟨_, rfl, ?_⟩
  have e : ({ s1 with heap := sortedHeap (s1.heap.push (seqObj "list" vs.toArray 0)) s1.heap.objs.size vs out.toArray } : Shared) = { s with heap := sortedHeap (s1.heap.push (seqObj "list" vs.toArray 0)) s1.heap.objs.size vs out.toArray, gens := s1.gens, drawn := s1.drawn, toks := s1.toks } := by
    cases s1
    cases s
    cases o1
    rfl
  show EP X pins σ Q (.ref s1.heap.objs.size) { s1 with heap := sortedHeap (s1.heap.push (seqObj "list" vs.toArray 0)) s1.heap.objs.size vs out.toArray }
  rw [e]
  exact ⟨.ref _, _, J, rfl, q _ _ po (srtd_strs (List.pairwise_map.mpr h1)) hn⟩
end
end Pw
namespace Pw
open PySem PySem.Spec PyProof.Rows L2 PpSet
/-! ### sorted({.. for ..}), read plainly -/
def compS (f : D → (Option Key → Prop) → Prop) : List D → List Key → (List Key → Prop) → Prop
  | [], ks, Q => Q ks
  | d :: ds, ks, Q => f d fun r => match r with | none => compS f ds ks Q | some k => compS f ds (addK ks k) Q
def wSortSc (wi : IW) (tg : Tgt) (wt : TW) (we : EW) (vs : List Nat) : EW := fun env Q => wi env fun ds => ds.length ≤ 1000 ∧
  compS (fun d R => ∃ env', setT tg d (wipeE env vs) = some env' ∧ wt env' fun c => if c = true then we env' fun t => ∃ kd key, t = .st kd ∧ kK kd = some key ∧ R (some key) else R none) ds [] fun ks => ∃ xs : List Str, ks = xs.map Sum.inr ∧ ∀ ys : List Str, ys.Perm xs → sortedS ys = true → Q (.st (.lst (ys.map D.str)))
theorem addK_len (ks : List Key) (k : Key) : (addK ks k).length ≤ ks.length + 1 := by
  unfold addK
  split <;> simp
section
variable {K : PySem.W.Frag} {b : Option Addr} {F H F' H' F'' H'' F0 H0 : Hp} {σ : L2.St} {env : Env}
theorem so_sortSc {w : World} {wi : TI} {wI : IW} {g : TG} {tg : Tgt} {tt : TT} {wt : TW} {te : TE} {we : EW} {vs : List Nat} (hi : SoI K wi wI) (hg : SoG K g tg) (hv : ∀ i ∈ tg.slots, i ∈ vs) (ht : SoT K tt wt) (he : SoE K te we) :
    SoE K (tCB (rSortM w) (tCons (tScM w wi g tt te vs) tNil)) (wSortSc wI tg wt we vs) := fun b F0 H0 F H σ env O Q' h1 Q q =>
  hi _ _ _ _ _ _ _ O _ h1 _ fun J ds F1 H1 S1 Y ⟨hl, h2⟩ => by
    intro Dp hD
    have O1 := O.step S1
    have nbD : b ≠ some Dp := fun e => by
      obtain ⟨_, _, _, _, z, _⟩ := O1.bx Dp e
      rw [hD] at z; cases z
    refine ⟨fun i m H' => ∃ F' ks, Stp K b F1 H1 F' H' ∧ H' Dp = some (SetMO w Dp ks) ∧ F' Dp = none ∧ ks.length ≤ i ∧ i ≤ ds.length ∧ m = ds.length - i ∧
        compS (fun d R => ∃ env', setT tg d (wipeE env vs) = some env' ∧ wt env' fun c => if c = true then we env' fun t => ∃ kd key, t = .st kd ∧ kK kd = some key ∧ R (some key) else R none) (ds.drop i) ks fun ks => ∃ xs : List Str, ks = xs.map Sum.inr ∧ ∀ ys : List Str, ys.Perm xs → sortedS ys = true → Q' (.st (.lst (ys.map D.str))),
      ⟨ds.length, F1, [], .skip O1.fit hD, upd_same, O1.same.free hD, by simp, Nat.zero_le _, by simp, by simpa using h2⟩, ?_⟩
    rintro i m H' ⟨F', ks, S, eD, nD, lk, li, em, hc⟩
    have O' := O1.step S
    by_cases hlt : i < ds.length
    · obtain ⟨d, ed, ed'⟩ := drop_get hlt
      rw [ed'] at hc
      obtain ⟨env', es0, ht'⟩ := hc
      obtain ⟨go, yl⟩ := Y.1 i d ed F' H' S.ff O'.fit
      refine .inr ⟨go, fun H'' => ∃ F' ks, Stp K b F1 H1 F' H'' ∧ H'' Dp = some (SetMO w Dp ks) ∧ F' Dp = none ∧ ks.length ≤ i + 1 ∧
          compS (fun d R => ∃ env', setT tg d (wipeE env vs) = some env' ∧ wt env' fun c => if c = true then we env' fun t => ∃ kd key, t = .st kd ∧ kK kd = some key ∧ R (some key) else R none) (ds.drop (i + 1)) ks fun ks => ∃ xs : List Str, ks = xs.map Sum.inr ∧ ∀ ys : List Str, ys.Perm xs → sortedS ys = true → Q' (.st (.lst (ys.map D.str))),
        fun H'' ⟨F', ks, z1, z2, z3, z4, z5⟩ => ⟨ds.length - (i + 1), by omega, F', ks, z1, z2, z3, z4, by omega, rfl, z5⟩, fun x H2 y => ?_⟩
      obtain ⟨F2, S2, r2⟩ := yl x H2 y
      have O2 := (O'.step S2).wipe vs
      refine hg _ _ _ _ _ _ _ _ _ _ O2 r2 es0 _ fun σ2 O3 w2 => ⟨by rw [w2 vs hv, wipe_wipe], ?_⟩
      refine ht _ _ _ _ _ _ _ O3 _ ht' _ fun c F4 H4 S4 h4 => ?_
      have S24 := S2.trans S4
      have e4 : H4 Dp = some (SetMO w Dp ks) := S24.hh _ _ eD nbD
      have n4 : F4 Dp = none := by rw [S24.fk _ _ eD]; exact nD
      cases c with
      | false => exact ⟨F4, ks, S.trans S24, e4, n4, by omega, by simpa using h4⟩
      | true =>
        rw [if_pos rfl] at h4
        rw [if_pos rfl]
        refine he _ _ _ _ _ _ _ (O3.step S4) _ h4 _ fun v t F5 H5 S5 g5 ⟨kd, key, et, ek, h5⟩ => ?_
        subst et
        have e5 : H5 Dp = some (SetMO w Dp ks) := S5.hh _ _ e4 nbD
        have n5 : F5 Dp = none := by rw [S5.fk _ _ e4]; exact n4
        refine ⟨ks, key, ?_, e5, Nat.lt_of_le_of_lt (by omega : ks.length + 1 ≤ 1001) (by decide), F5, addK ks key, ((S.trans S24).trans S5).mutNew hD n5 O1.fit, upd_same, n5, by have := addK_len ks key; omega, h5⟩
        exact g5.inv_st.kK ek
    · have e : i = ds.length := by omega
      subst e
      rw [List.drop_length] at hc
      obtain ⟨xs, ek, h3⟩ := hc
      subst ek
      rw [List.length_map] at lk
      refine .inl ⟨Y.2 F' H' S.ff O'.fit, Dp, xs, rfl, eD, by omega, fun ys p p1 p2 hp => ?_⟩
      obtain ⟨S3, g3⟩ := Stp.got_new O'.fit hp (Reps.of_strs (K := K) (b := b) (F := F') (ns := ys))
      exact q _ _ _ _ ((S1.trans S).trans S3) g3 (h3 ys p1 p2)
end
section
variable {K : PySem.W.Frag} {X : Cx} {elt tg iter : Expr} {ifs : List Expr} {scope : Scope} {wI : TI} {wi : IW} {g : TG} {tgt : Tgt} {tt : TT} {wt : TW} {te : TE} {we : EW} {pos p p2 : Pos}
theorem x_sortSc (B : Bi X.mg) (own : List (Str × Nat)) (hc : X.calm = true) (hN : X.N.Nodup) (hi : PIw K X tg iter wI wi) (hg : Blk X scope fun Y => PGw K Y tg g tgt) (ht : Blk X scope fun Y => PTsw K Y ifs tt wt) (he : Blk X scope fun Y => PEw K Y elt te we)
    (ok : blkC X.N X.env.scope scope own = true := by kernel_rfl) (hv : ∀ i ∈ tgt.slots, i ∈ own.map (·.2) := by decide) (hs : ∀ x, foldedSetIterable iter X.env x = pure x := by intro _; rfl)
    (hgl : Gl X "sorted" := by rfl) (hst : starEach [.SetComp elt [⟨tg, iter, ifs, 0⟩] scope p2] X.env = (false, eval (.SetComp elt [⟨tg, iter, ifs, 0⟩] scope p2) X.env) :: starEach [] X.env := by rfl) (hpl : (backTo pos (starEach [] X.env)).any (·.1) = false := by rfl) :
    PEw K X (.Call (.Name "sorted" p) [.SetComp elt [⟨tg, iter, ifs, 0⟩] scope p2] [] pos) (tCB (rSortM X.w) (tCons (tScM X.w wI g tt te (own.map (·.2))) tNil)) (wSortSc wi tgt wt we (own.map (·.2))) :=
  ⟨pe_callB (cr_sortM hc) hgl B.sorted (by decide +kernel) (pa_cons (pe_scM hc hN hi.pe (blkOk_by ok) (fun s H C cl fp => (hg s H C cl fp).pe) (fun s H C cl fp => (ht s H C cl fp).pe) (fun s H C cl fp => (he s H C cl fp).pe) hs) pa_nil hst) (by decide) (by decide) hst hpl,
    so_sortSc hi.so hg.one.so hv ht.one.so he.one.so⟩
end
end Pw
namespace Pw
open PySem PySem.Spec PyProof.Rows L2 PySem.W
/-! ### min of one tuple of texts -/
theorem reads_strs {h : Heap} : ∀ {xs : List Str} {vs : List Value}, Vals (xs.map V.str) vs → ReadsAll h vs (xs.map PyData.str) []
  | [], _, .nil => .nil
  | x :: xs, _, .cons r rs => by
    obtain ⟨t, rfl⟩ := r
    exact .cons (.str x t) (reads_strs rs)
theorem depth_strs : ∀ xs : List Str, PyData.depthAll (xs.map PyData.str) ≤ 1
  | [] => by simp [PyData.depthAll]
  | x :: xs => by
    have := depth_strs xs
    simp [PyData.depthAll, PyData.depth]
    omega
theorem alike_strs : ∀ xs : List Str, alikeAll (xs.map PyData.str) (xs.map PyData.str) = true
  | [] => by simp [alikeAll]
  | x :: xs => by simp [alikeAll, alike, alike_strs xs]
def rMin1 (K : PySem.W.Frag) : List V → Hp → VK → Prop := fun vs H Q => ∃ (l t : Addr) (xs : List Str), vs = [V.ref l] ∧ SqL K H l [V.ref t] ∧ H t = some (.tup (xs.map V.str)) ∧ Q (.ref t) H
theorem cr_min1 {X : Cx} (hc : X.calm = true) (hu : X.A.units + 64 < cLine) : CallR X (.builtin "min") (rMin1 X.K) := by
  intro pins s σ H vs us Q I r h
  obtain ⟨l, t, xs, rfl, hs, ht, q⟩ := h
  obtain ⟨its, rv, hl, _⟩ := I.list hs
  rw [Vals.ref1 r]
  obtain ⟨u, rfl, ru⟩ := vals1 rv
  obtain rfl : u = Value.ref t := ru
  obtain ⟨_, its2, r2, o, ho, hcl, n, hd⟩ := I.hok _ _ ht
  have rd : ReadsAll s.heap [Value.ref t] [PyData.tuple (xs.map PyData.str)] ([] ++ []) := .cons (.tuple ho hcl hd (by simpa using reads_strs (h := s.heap) r2)) .nil
  have dp := depth_strs xs
  refine min_list_data (x := .tuple (xs.map PyData.str)) (xs := []) (I.ok.hd hc) hl.isList (by simpa using rd) ⟨?_, ?_⟩ ?_ fun i v h' tk bs e _ k => ?_
  · intro x hx y hy
    rw [List.mem_singleton.mp hx, List.mem_singleton.mp hy, alike]
    exact alike_strs xs
  · intro x hx e
    rw [List.mem_singleton.mp hx] at e
    cases e
  · simp [PyData.depthAll, PyData.depth]
    omega
  · have : v = Value.ref t := by
      cases i with
      | zero => simpa using e.symm
      | succ i => simp at e
    subst this
    exact ⟨.ref t, H, I.kept k, rfl, q⟩
end Pw
namespace Pw
open PySem PySem.Spec PyProof.Rows L2 PySem.MeetsSeq
/-! ### xs.remove(x), xs with one item that is equal to x -/
theorem remove1_loop (l : Addr) (y x : Value) (n : Nat) (items : Array Value) (hi : items[(((0 : Nat) : Int)).toNat]? = some y) (hz : items.size ≤ sizeLine) : Meets (Builtin.«list.remove.loop» ⟨[.ref l, x, rawInt ((0 : Nat) : Int)], []⟩)
    (fun A R s => s.heap.get? l = some { cls := .type "list", dict := none, data := .seq items n, slots := #[] } ∧ SeqAt.EqAt A.in1 s y x true ∧ R (.ok (.ret .none)) { s with heap := s.heap.update l (Obj.mapSeq fun xs => xs.eraseIdxIfInBounds 0) }) := by
  intro prog w A R s h
  obtain ⟨hp, g, d, tk, os⟩ := s
  obtain ⟨hl, he, h⟩ := h
  wp_walk using wpAny_loadPart' hl
  rw [hi]
  refine wpAny_bind (he prog w _ _ ?_)
  have hz' : (items.eraseIdxIfInBounds 0).size ≤ sizeLine + 1 := Nat.le_trans (size_erased _ _) (Nat.le_succ_of_le hz)
  wp_walk using (wpAny_updateSeq hl rfl (hz := hz) (_hz' := hz')), wpAny_loadPart' hl
  simpa using h
theorem remove1 (l : Addr) (y x : Value) (n : Nat) (items : Array Value) (hi : items[(((0 : Nat) : Int)).toNat]? = some y) (hz : items.size ≤ sizeLine) : Meets (Builtin.«list.remove» ⟨[.ref l, x], []⟩)
    (fun A R s => s.heap.get? l = some { cls := .type "list", dict := none, data := .seq items n, slots := #[] } ∧ SeqAt.EqAt A.in1 s y x true ∧ R (.ok (.ret .none)) { s with heap := s.heap.update l (Obj.mapSeq fun xs => xs.eraseIdxIfInBounds 0) }) := by
  intro prog w A R s h
  obtain ⟨hp, g, d, tk, os⟩ := s
  obtain ⟨hl, he, h⟩ := h
  wp_walk using wpAny_loadPart' hl
  exact ⟨plainId_quiet plain_remove_loop _, codeAny_builtin entry_remove_loop (by
    rw [Around.under_plainId plain_remove_loop _]
    exact remove1_loop l y x n items hi hz prog w A R _ ⟨hl, he, h⟩)⟩
theorem strs_at : ∀ {xs : List Str} {vs : List Value}, Vals (xs.map V.str) vs → ∀ j (h : j < vs.length), ∃ x t, xs[j]? = some x ∧ vs[j] = Value.str x t
  | [], _, .nil, j, h => absurd h (Nat.not_lt_zero _)
  | x :: xs, _, .cons r rs, j, h => by
    obtain ⟨t, rfl⟩ := r
    cases j with
    | zero => exact ⟨x, t, rfl, rfl⟩
    | succ j =>
      obtain ⟨x', t', h1, h2⟩ := strs_at rs j (by simpa using h)
      exact ⟨x', t', by simpa using h1, by simpa using h2⟩
theorem eq_tups {A : Around} {s : Shared} {a c : Addr} {xs : List Str} {vs us : List Value} (ha : s.heap.IsTuple a vs.toArray) (hc : s.heap.IsTuple c us.toArray) (rv : Vals (xs.map V.str) vs) (ru : Vals (xs.map V.str) us) (hu : A.units < cLine) : SeqAt.EqAt A s (.ref a) (.ref c) true := by
  by_cases e : a = c
  · subst e
    exact SeqAt.EqAt.same _
  · have lv := rv.length
    have lu := ru.length
    have z := SeqAt.RcAt.tuples (e := fun _ => true) ha hc hu fun j h1 h2 => by
      obtain ⟨x, t, e1, e2⟩ := strs_at rv j (by simpa using h1)
      obtain ⟨y, u, e3, e4⟩ := strs_at ru j (by simpa using h2)
      rw [e1] at e3
      cases e3
      have q := SeqAt.EqAt.str_str (A := A.in1) (s := s) x t x u
      rw [beq_self_eq_true] at q
      simpa [e2, e4] using q
    have tr : ((List.range (min vs.toArray.size us.toArray.size)).all (fun _ => true) && vs.toArray.size == us.toArray.size) = true := by
      have : vs.length = us.length := by omega
      simp [this]
    rw [tr] at z
    exact SeqAt.EqAt.of_refs e z
def rRem1 : V → List V → Hp → VK → Prop := fun x ys H Q => ∃ (l t c : Addr) (xs : List Str), x = .ref l ∧ ys = [.ref c] ∧ H l = some (.lst [V.ref t]) ∧ H t = some (.tup (xs.map V.str)) ∧ H c = some (.tup (xs.map V.str)) ∧ Q .non (upd H l (.lst []))
theorem mt_rem1 {X : Cx} (hu : X.A.units + 64 < cLine) : MtR X "list.remove" rRem1 := by
  intro pins s σ H x ys v us Q I rx ry h
  obtain ⟨l, t, c, xs, rfl, rfl, hl, ht, hc, q⟩ := h
  cases rx
  obtain ⟨u, rfl, ru⟩ := vals1 ry
  obtain rfl : u = Value.ref c := ru
  obtain ⟨z, its, n, r, el, e⟩ := I.lstM hl
  obtain ⟨y, rfl, ry1⟩ := vals1 r
  obtain rfl : y = Value.ref t := ry1
  obtain ⟨its2, r2, p2, _⟩ := I.tuple (.inl (.inl ht))
  obtain ⟨its3, r3, p3, _⟩ := I.tuple (.inl (.inl hc))
  refine call_meets PySem.F.slot_list_remove ⟨_, e, rfl⟩ PySem.F.entry_list_remove (PySem.F.args_list_remove_2 _ _) (remove1 l (.ref t) (.ref c) n _ (by simp) (by rw [sizeLine_eq]; show 1 ≤ _; decide)) ⟨e, eq_tups p2 p3 r2 r3 (by show X.A.units + 1 < _; omega), ?_⟩
  exact ⟨.non, _, I.lset (its' := []) (t' := s.toks) hl e (by simp) .nil (Nat.zero_le _), rfl, q⟩
section
variable {K : PySem.W.Frag} {b : Option Addr} {F H F' H' F'' H'' F0 H0 : Hp} {v : V} {te : TE} {we : EW}
def strT (xs : List Str) : D := .tup (xs.map D.str)
theorem Rep.strT {xs : List Str} (h : Rep K b F v (Pw.strT xs)) : ∃ t, v = .ref t ∧ F t = some (.tup (xs.map V.str)) := by
  unfold Pw.strT at h
  cases h with
  | tup e r => exact ⟨_, rfl, by rw [e, r.strs]⟩
def fMin1 : List T → (T → Prop) → Prop := fun ts Q => ∃ (t : T) (xs : List Str), ts = [t] ∧ t.dl? = some [strT xs] ∧ Q (.st (strT xs))
theorem soc_min1 : SoC K (rMin1 K) fMin1 := fun b F H vs ts e gs Q' h Q q => by
  obtain ⟨t, xs, rfl, h1, h2⟩ := h
  obtain ⟨v, rfl, g⟩ := gs.one
  obtain ⟨a, ws, rfl, z1, z2⟩ := g.dl e.1 h1
  cases z2 with
  | cons r rs =>
    cases rs
    obtain ⟨t, rfl, ht⟩ := r.strT
    exact ⟨a, t, xs, rfl, SqL.of z1, e.1 _ _ ht, q _ _ F H e.refl ⟨[], .st r, by simp⟩ h2⟩
theorem RepTs.nil_inv {vs : List V} {f : List Addr} : RepTs K b F H vs [] f → vs = [] ∧ f = []
  | .nil => ⟨rfl, rfl⟩
theorem RepT.st_inv {d : D} {f : List Addr} : RepT K b F H v (.st d) f → f = [] ∧ Rep K b F v d
  | .st h => ⟨rfl, h⟩
theorem RepTs.cons_inv {t : T} {ts : List T} {vs : List V} {f : List Addr} (h : RepTs K b F H vs (t :: ts) f) : ∃ w ws g g', vs = w :: ws ∧ f = g ++ g' ∧ RepT K b F H w t g ∧ RepTs K b F H ws ts g' := by
  cases h with
  | cons h1 h2 => exact ⟨_, _, _, _, rfl, rfl, h1, h2⟩
theorem RepT.vl_inv {ts : List T} {f : List Addr} (h : RepT K b F H v (.vl ts) f) : ∃ l vs g, v = .ref l ∧ f = l :: g ∧ F l = none ∧ H l = some (.lst vs) ∧ RepTs K b F H vs ts g := by
  cases h with
  | vl h1 h2 h3 => exact ⟨_, _, _, rfl, rfl, h1, h2, h3⟩
theorem RepT.one_inv {d : D} {f : List Addr} (h : RepT K b F H v (.vl [.st d]) f) : ∃ l w, v = .ref l ∧ f = [l] ∧ F l = none ∧ H l = some (.lst [w]) ∧ Rep K b F w d := by
  obtain ⟨l, vs, g, rfl, rfl, h1, h2, h3⟩ := h.vl_inv
  obtain ⟨w, ws, g1, g2, rfl, rfl, h4, h5⟩ := h3.cons_inv
  obtain ⟨rfl, rfl⟩ := h5.nil_inv
  obtain ⟨rfl, h6⟩ := h4.st_inv
  exact ⟨l, w, rfl, rfl, h1, h2, h6⟩
def sRem1 (i : Nat) (we : EW) : SW := fun E env => ∃ xs : List Str, env[i]? = some (some (.vl [.st (strT xs)])) ∧ we env fun t => t = .st (strT xs) ∧ E.nx (env.set i (some (.vl [])))
theorem so_rem1 {i : Nat} (he : SoE K te we) : SoS K (tDrop (tBM K "list" rRem1 (tVar i) (tCons te tNil))) (sRem1 i we) := fun b F0 H0 F H σ env O E ⟨xs, e, h⟩ D q => by
  obtain ⟨v, f, h3, h4, h5⟩ := O.get e
  refine ⟨v, h3, ?_, he _ _ _ _ _ _ _ O _ h _ fun y ty F1 H1 S1 g1 ⟨e1, h2⟩ => ?_⟩
  · cases h4 with
    | vl z0 z1 z2 => exact .inl ⟨rfl, _, SqL.of z1⟩
  · subst e1
    obtain ⟨v', f', e2, r2, nf, kf, mk⟩ := (O.step S1).mut e
    have := opt_some h3 e2
    subst this
    obtain ⟨l, w, rfl, rfl, z0, z1, z3⟩ := r2.one_inv
    obtain ⟨t, rfl, ht⟩ := z3.strT
    obtain ⟨c, rfl, hc⟩ := g1.inv_st.strT
    have sb := (O.step S1).same
    refine ⟨l, t, c, xs, rfl, rfl, z1, sb _ _ ht, sb _ _ hc, q.nx F1 _ _ _ S1.ff (mk _ (.vl []) [l] (fun a o m z => ?_) (fun a m => ?_) (.vl z0 upd_same .nil) (by simp) fun a m => .inl m) h2⟩
    · rw [upd_ne (fun q => m (by rw [q]; simp))]; exact z
    · exact upd_there ⟨_, by rw [show a = l by simpa using m]; exact z1⟩
variable {X : Cx} {a e : Expr} {pos p apos cpos spos px : Pos} {tr : TA} {wr : AW} {y : Str}
theorem x_min1 (B : Bi X.mg) (hK : X.K = K) (hc : X.calm = true) (hu : X.A.units + 64 < cLine) (ha : PAw K X [a] tr wr) (hg : Gl X "min" := by rfl) (he : starEach [a] X.env = (false, eval a X.env) :: starEach [] X.env := by rfl) (hpl : (backTo pos (starEach [] X.env)).any (·.1) = false := by rfl) : PEw K X (.Call (.Name "min" p) [a] [] pos) (tCB (rMin1 K) tr) (wCB fMin1 wr) := by
  subst hK; exact ⟨pe_callB (cr_min1 hc hu) hg B.min (by decide +kernel) ha.pe (by decide) (by decide) he hpl, so_cb ha.so soc_min1⟩
theorem y_rem1 (i : Nat) (hK : X.K = K) (hu : X.A.units + 64 < cLine) (h : PEw K X e te we) (hi : X.N[i]? = some y := by rfl) (hv : Vis X.env.scope y := by first | exact Or.inl rfl | exact Or.inr (Or.inl rfl) | exact Or.inr (Or.inr rfl)) (hd : (y == ("__debug__" : Str)) = false := by decide) (hcd : (y == ("__classdict__" : Str)) = false := by decide)
    (hbase : attributeBase (.Name y px) "remove" X.env (eval (.Name y px) X.env) = eval (.Name y px) X.env := by rfl) (hfew : ((backTo cpos (starEach [e] X.env)).all (fun x => !x.1) && (backToKw cpos (keywordEach [] X.env)).all (fun x => x.1.isSome) && decide (([e] : List Expr).length + ([] : List Keyword).length + (if ([] : List Keyword).isEmpty then 0 else 1) < 30)) = true := by rfl)
    (hline : (apos.endLine == cpos.line) = true := by rfl) (hs : starEach [e] X.env = (false, eval e X.env) :: starEach [] X.env := by rfl) (hplain : (backTo cpos (starEach [] X.env)).any (·.1) = false := by rfl) (hsw : swapsWith (.Call (.Attribute (.Name y px) "remove" apos) [e] [] cpos) none spos.line X.env = pure false := by rfl) :
    PSw K X (.Expr (.Call (.Attribute (.Name y px) "remove" apos) [e] [] cpos) spos) (tDrop (tBM K "list" rRem1 (tVar i) (tCons te tNil))) (sRem1 i we) := by
  subst hK
  exact ⟨ps_expr (pe_bm PySem.F.plainAttrs_list PySem.F.slot_list_remove PySem.F.type_list_remove (mt_rem1 hu) (pe_var hi hv hd hcd) (pa_cons h.pe pa_nil hs) hbase hfew hline hs hplain) hsw, so_rem1 h.so⟩
end
end Pw
namespace Pw
open PySem PySem.Spec PyProof.Rows L2
/-! ### a call that is lent live lists of tuples, and gives a plain scalar -/
def LendOk (t : T) : Prop := (∃ d, t = .st d) ∨ ∃ es : List (List D), t = .vl (es.map fun e => .st (.tup e))
def ScalD : D → Prop
  | .non | .bl _ | .int _ | .str _ => True
  | _ => False
section
variable {K : PySem.W.Frag} {b : Option Addr} {F H F' H' F'' H'' F0 H0 : Hp} {v : V} {vs : List V}
theorem Rep.scal {d : D} (h : Rep K b F v d) (s : ScalD d) : Rep K b F' v d := by
  cases h with
  | non => exact .non
  | bl c => exact .bl c
  | int i => exact .int i
  | str x => exact .str x
  | _ => exact s.elim
theorem tups_live : ∀ {es : List (List D)} {vs : List V} {f : List Addr}, RepTs K b F H vs (es.map fun e => .st (.tup e)) f → f = [] ∧ ∀ x ∈ vs, ∃ t, x = V.ref t
  | [], _, _, h => by
    obtain ⟨rfl, rfl⟩ := h.nil_inv
    exact ⟨rfl, by simp⟩
  | e :: es, _, _, h => by
    obtain ⟨w, ws, g, g', rfl, rfl, h1, h2⟩ := h.cons_inv
    obtain ⟨rfl, h3⟩ := h1.st_inv
    obtain ⟨rfl, h4⟩ := tups_live h2
    refine ⟨rfl, fun x hx => ?_⟩
    rcases List.mem_cons.mp hx with rfl | hx
    · cases h3 with
      | tup _ _ => exact ⟨_, rfl⟩
    · exact h4 x hx
theorem lend_live : ∀ {ts : List T} {vs : List V} {f : List Addr}, (∀ t ∈ ts, LendOk t) → RepTs K b F H vs ts f → ∀ a ∈ f, ∃ xs, H a = some (.lst xs) ∧ ∀ x ∈ xs, ∃ t, x = V.ref t
  | [], _, _, _, h => by
    obtain ⟨rfl, rfl⟩ := h.nil_inv
    simp
  | t :: ts, _, _, ok, h => by
    obtain ⟨w, ws, g, g', rfl, rfl, h1, h2⟩ := h.cons_inv
    intro a ha
    rcases List.mem_append.mp ha with ha | ha
    · rcases ok t (.head _) with ⟨d, rfl⟩ | ⟨es, rfl⟩
      · obtain ⟨rfl, _⟩ := h1.st_inv
        cases ha
      · obtain ⟨l, us, g2, rfl, rfl, h3, h4, h5⟩ := h1.vl_inv
        obtain ⟨rfl, h6⟩ := tups_live h5
        rw [List.mem_singleton.mp ha]
        exact ⟨us, h4, h6⟩
    · exact lend_live (fun t m => ok t (.tail _ m)) h2 a ha
/-- F'' without what was lent -/
def unlend (f : List Addr) (F F'' : Hp) : Hp := fun a => if a ∈ f then F a else F'' a
theorem unlend_in {f : List Addr} {a : Addr} (m : a ∈ f) : unlend f F F'' a = F a := by unfold unlend; rw [if_pos m]
theorem unlend_out {f : List Addr} {a : Addr} (m : a ∉ f) : unlend f F F'' a = F'' a := by unfold unlend; rw [if_neg m]
theorem Stp.unlend {f : List Addr} (e : Same F H) (fn : ∀ a ∈ f, F a = none) (lv : ∀ a ∈ f, ∃ xs, H a = some (.lst xs) ∧ ∀ x ∈ xs, ∃ t, x = V.ref t) (fb : ∀ a ∈ f, b ≠ some a) (S : Stp K b (frzF f F H) H F'' H'') : Stp K b F H (Pw.unlend f F F'') H'' := by
  have out : ∀ a o, F a = some o → a ∉ f := fun a o z m => by rw [fn a m] at z; cases z
  refine ⟨fun a o z => ?_, fun a o z => ?_, S.hh, S.dm, fun a o z => ?_, fun a z x => ?_⟩
  · rw [unlend_out (out a o z)]
    exact S.ff a o (by rw [frzF_out (out a o z)]; exact z)
  · by_cases m : a ∈ f
    · rw [unlend_in m, fn a m] at z; cases z
    · rw [unlend_out m] at z; exact S.sub a o z
  · by_cases m : a ∈ f
    · exact unlend_in m
    · rw [unlend_out m, S.fk a o z, frzF_out m]
  · have am : a ∉ f := fun m => fb a m z
    obtain ⟨x0, r0, ns0, n0, x1, x2, x3⟩ := x
    have y : BoxAt K (frzF f F H) H a := ⟨by rw [frzF_out am]; exact x0, r0, ns0, n0, x1, (frzF_same fn).seq x2, x3⟩
    obtain ⟨y0, r, ns, n, y1, y2, y3, y4⟩ := S.bx a z y
    refine ⟨by rw [unlend_out am]; exact y0, r, ns, n, y1, ?_, y3, y4⟩
    rcases y2 with y2 | y2
    · have rm : r ∉ f := fun m => by
        obtain ⟨xs, z1, z2⟩ := lv r m
        have z3 := S.hh r _ z1 (fb r m)
        have bad : ∀ o, F'' r = some o → o = .lst xs := fun o q => by
          have := S.sub r o q
          rw [z3] at this
          exact (Option.some.inj this).symm
        rcases y2 with y2 | ⟨o, y2⟩
        · have := bad _ y2
          cases ns with
          | nil => exact y3 rfl
          | cons k ns =>
            have e2 : (k :: ns).map V.int = xs := by injection this
            obtain ⟨t, e3⟩ := z2 (.int k) (by rw [← e2]; simp)
            cases e3
        · have := bad _ y2
          cases this
      refine .inl ?_
      rcases y2 with y2 | ⟨o, y2⟩
      · exact .inl (by rw [unlend_out rm]; exact y2)
      · exact .inr ⟨o, by rw [unlend_out rm]; exact y2⟩
    · exact .inr y2
def wCallL (sp : PSp) (wr : AW) : EW := fun env Q => wr env fun ts => (∀ t ∈ ts, LendOk t) ∧ sp (erases ts) fun d => ScalD d ∧ Q (.st d)
theorem so_callL {tr : TA} {wr : AW} {sp : PSp} {E : XK} (h : SoA K tr wr) : SoE K (tCall (spOf K sp) [] E tr) (wCallL sp wr) := fun b F0 H0 F H σ env O Q' h1 Q q =>
  h _ _ _ _ _ _ _ O _ h1 _ fun vs ts F1 H1 S1 g1 ⟨ok, h2⟩ => by
    obtain ⟨f, r, fb⟩ := g1
    show spOf K sp (vs ++ []) H1 Q E
    rw [List.append_nil]
    have O1 := O.step S1
    have fn : ∀ a ∈ f, F1 a = none := fun a m => (r.known a m).1
    have s1 : Same F1 (frzF f F1 H1) := frzF_same fn
    refine ⟨b, frzF f F1 H1, erases ts, _, ⟨frzF_sub O1.same, fun a z => ?_⟩, r.erase s1 fun a m => frzF_in m, h2, fun v d F2 H2 S2 r2 ⟨sc, h3⟩ => ?_⟩
    · obtain ⟨x0, r0, ns, n, x1, x2, x3⟩ := O1.bx a z
      exact ⟨by rw [frzF_out (fun m => fb a m z)]; exact x0, r0, ns, n, x1, s1.seq x2, x3⟩
    · exact q v (.st d) _ H2 (S1.trans (Stp.unlend O1.same fn (lend_live ok r) fb S2)) ⟨[], .st (r2.scal sc), by simp⟩ h3
end
end Pw
namespace Pw
open PySem PySem.Spec PyProof.Rows L2
section
variable {K : PySem.W.Frag} {b : Option Addr} {F H F' H' F'' H'' F0 H0 : Hp} {v : V} {vs : List V} {σ : L2.St} {env : Env}
/-- a live list of tuples in slot j stands still for a while -/
theorem Ok.lend (O : Ok K b F0 H0 F H σ env) {j : Nat} {es : List (List D)} (h : env[j]? = some (some (.vl (es.map fun e => .st (.tup e))))) :
    ∃ f, (∀ a ∈ f, F a = none ∧ b ≠ some a) ∧ (∀ a ∈ f, ∃ xs, H a = some (.lst xs) ∧ ∀ x ∈ xs, ∃ t, x = V.ref t) ∧ Ok K b F0 H0 (frzF f F H) H σ (env.set j (some (.st (.lst (es.map .tup))))) := by
  obtain ⟨fp, r, n, k⟩ := O.ev
  obtain ⟨v, l, f, r', h1, rfl, h3, h4⟩ := r.focus h
  have kf : ∀ a ∈ f, H0 a = none ∧ b ≠ some a := fun a m => k a (List.mem_append_right _ (List.mem_append_left _ m))
  have fn : ∀ a ∈ f, F a = none := fun a m => (h3.known a m).1
  have s1 : Same F (frzF f F H) := frzF_same fn
  have dis : ∀ a, a ∈ l ∨ a ∈ r' → a ∉ f := fun a m m' => by
    obtain ⟨a1, a2, a3⟩ := List.nodup_append.mp n
    obtain ⟨b1, b2, b3⟩ := List.nodup_append.mp a2
    rcases m with m | m
    · exact a3 a m a (List.mem_append_left _ m') rfl
    · exact b3 a m' a m rfl
  have er : (T.vl (es.map fun e => T.st (.tup e))).erase = .lst (es.map .tup) := by
    simp [T.erase, erases_map]
  have lv : ∀ a ∈ f, ∃ xs, H a = some (.lst xs) ∧ ∀ x ∈ xs, ∃ t, x = V.ref t := by
    obtain ⟨l', us, g2, _, rfl, z3, z4, z5⟩ := h3.vl_inv
    obtain ⟨rfl, z6⟩ := tups_live z5
    intro a m
    rw [List.mem_singleton.mp m]
    exact ⟨us, z4, z6⟩
  refine ⟨f, fun a m => ⟨fn a m, (kf a m).2⟩, lv, ⟨fun a o e => s1 a o (O.st.ff a o e), frzF_sub O.st.sub, O.st.hh, O.st.dm, fun a o e => ?_, fun a e x => ?_⟩, fun a e => ?_, l ++ ([] ++ r'), ?_, nodup_mid n List.nodup_nil (fun a m => by cases m), fun a m => ?_⟩
  · rw [frzF_out (fun m => by rw [(kf a m).1] at e; cases e)]; exact O.st.fk a o e
  · obtain ⟨x0, r, ns, n, x1, x2, x3⟩ := O.st.bx a e x
    exact ⟨by rw [frzF_out (fun m => (kf a m).2 e)]; exact x0, r, ns, n, x1, s1.seq x2, x3⟩
  · obtain ⟨x0, r, ns, n, x1, x2, x3⟩ := O.bx a e
    exact ⟨by rw [frzF_out (fun m => (kf a m).2 e)]; exact x0, r, ns, n, x1, s1.seq x2, x3⟩
  · have := h4 _ H (.st (T.vl (es.map fun e => T.st (.tup e))).erase) [] s1 (fun a m => ⟨frzF_out (dis a m), rfl⟩) (.st h3.freeze)
    rw [er] at this
    exact this
  · rcases List.mem_append.mp m with m | m
    · exact k a (List.mem_append_left _ m)
    · exact k a (List.mem_append_right _ (List.mem_append_right _ (by simpa using m)))
/-- a tuple of scalars -/
def Flat (d : D) : Prop := ∃ es : List D, d = .tup es ∧ ∀ e ∈ es, ScalD e
theorem Reps.scals : ∀ {ds : List D} {vs : List V}, Reps K b F vs ds → (∀ d ∈ ds, ScalD d) → Reps K b F' vs ds
  | [], _, h, _ => by cases h; exact .nil
  | d :: ds, _, h, s => by
    cases h with
    | cons h1 h2 => exact .cons (h1.scal (s d (.head _))) (Reps.scals h2 fun x m => s x (.tail _ m))
theorem Rep.flat {d : D} (h : Rep K b F v d) (s : Flat d) (k : ∀ t us, F t = some (.tup us) → F' t = some (.tup us)) : Rep K b F' v d := by
  obtain ⟨es, rfl, sc⟩ := s
  cases h with
  | tup e r => exact .tup (k _ _ e) (r.scals sc)
theorem flats : ∀ {ds : List D} {vs : List V} {f : List Addr}, RepTs K b F H vs (ds.map .st) f → (∀ d ∈ ds, Flat d) → (∀ t us, F t = some (.tup us) → F' t = some (.tup us)) → RepTs K b F' H vs (ds.map .st) f
  | [], _, _, h, _, _ => by
    obtain ⟨rfl, rfl⟩ := h.nil_inv
    exact .nil
  | d :: ds, _, _, h, s, k => by
    obtain ⟨w, ws, g, g', rfl, rfl, h1, h2⟩ := h.cons_inv
    obtain ⟨rfl, h3⟩ := h1.st_inv
    exact .cons (.st (h3.flat (s d (.head _)) k)) (flats h2 (fun x m => s x (.tail _ m)) k)
def sNewL (i j : Nat) (we : EW) : SW := fun E env => ∃ es : List (List D), env[j]? = some (some (.vl (es.map fun e => .st (.tup e)))) ∧ we (env.set j (some (.st (.lst (es.map .tup))))) fun r => ∃ ds : List D, r = .vl (ds.map .st) ∧ (∀ d ∈ ds, Flat d) ∧ E.nx (env.set i (some r))
theorem so_newL {i j : Nat} {te : TE} {we : EW} (h : SoN K te we) : SoS K (tAsg te (gName i)) (sNewL i j we) := fun b F0 H0 F H σ env O E ⟨es, e, h1⟩ D q => by
  obtain ⟨f, k1, lv, O2⟩ := O.lend e
  refine h _ _ _ _ _ _ _ O2 _ h1 _ fun v t g F1 H1 S1 r1 n1 new ⟨ds, et, fl, h2⟩ => ?_
  subst et
  have S2 := Stp.unlend O.same (fun a m => (k1 a m).1) lv (fun a m => (k1 a m).2) S1
  have kp : ∀ t us, F1 t = some (.tup us) → unlend f F F1 t = some (.tup us) := fun t us z => by
    by_cases m : t ∈ f
    · obtain ⟨xs, z1, _⟩ := lv t m
      have z2 := S1.hh t _ z1 (k1 t m).2
      rw [S1.sub _ _ z] at z2
      cases z2
    · rw [unlend_out m]; exact z
  obtain ⟨l, us, g2, rfl, rfl, z0, z1, z2⟩ := r1.vl_inv
  have lf : l ∉ f := fun m => by
    obtain ⟨xs, y, _⟩ := lv l m
    rw [new l (.head _)] at y; cases y
  have r2 : RepT K b (unlend f F F1) H1 (.ref l) (.vl (ds.map .st)) (l :: g2) := .vl (by rw [unlend_out lf]; exact z0) z1 (flats z2 fl kp)
  exact q.nx _ H1 _ _ S2.ff (O.setN S2 i r2 n1 new) h2
end
section
variable {K : PySem.W.Frag} {X : Cx} {elt tg iter : Expr} {ifs : List Expr} {scope : Scope} {wI : TI} {wi : IW} {g : TG} {tgt : Tgt} {tt : TT} {wt : TW} {te : TE} {we : EW} {pos spos py : Pos} {y : Str}
theorem y_newLcL (i j : Nat) (own : List (Str × Nat)) (hc : X.calm = true) (hN : X.N.Nodup) (hi : PIw K X tg iter wI wi) (hg : Blk X scope fun Y => PGw K Y tg g tgt) (ht : Blk X scope fun Y => PTsw K Y ifs tt wt) (he : Blk X scope fun Y => PNw K Y elt te we)
    (hy : X.N[i]? = some y := by rfl) (hyl : X.env.scope.names.lookup y = some .local := by rfl) (hk : X.env.scope.kind = .function := by rfl) (hl : (py.line == pos.line) = true := by rfl) (hq : (scope.names.any fun (n, k) => n == y && (k == .local || k == .cell)) = false := by kernel_rfl)
    (ok : blkC X.N X.env.scope scope own = true := by kernel_rfl) (hv : ∀ i ∈ tgt.slots, i ∈ own.map (·.2) := by decide) (hs : ∀ x, foldedSetIterable iter X.env x = pure x := by intro _; rfl) :
    PSw K X (.Assign [.Name y py] (.ListComp elt [⟨tg, iter, ifs, 0⟩] scope pos) spos) (tAsg (tLc wI g tt te (own.map (·.2))) (gName i)) (sNewL i j (wLc wi tgt wt we (own.map (·.2)))) :=
  ⟨ps_setLc hc hN hy hyl (sw_true hk hyl hl hq) hi.pe (blkOk_by ok) (fun s H C cl fp => (hg s H C cl fp).pe) (fun s H C cl fp => (ht s H C cl fp).pe) (fun s H C cl fp => (he s H C cl fp).pe) hs, so_newL (so_lc hi.so hg.one.so hv ht.one.so he.one.so)⟩
end
end Pw
namespace Pw
open PySem PySem.Spec PyProof.Rows L2
/-! ### x in l where x and the members are data of any depth -/
theorem u65 {k : Nat} {A : Around} (r : Room k A) : A.units + 65 < cLine := by have := r.un; omega
def fInD (neg : Bool) : T → T → (T → Prop) → Prop := fun x y Q => ∃ (d : D) (ds : List D), x = .st d ∧ y.dl? = some ds ∧ d.isPy = true ∧ arePy ds = true ∧ SeqAt.shaped d.py = true ∧ SeqAt.shaped (PyData.list (pys ds)) = true ∧
  Q (.st (.bl (if neg then !(pys ds).any fun z => PyData.eqv z d.py else (pys ds).any fun z => PyData.eqv z d.py)))
def rInDA (K : PySem.W.Frag) (neg : Bool) : R2 := if neg then rNotInD K else rInD K
section
variable {X : Cx} {K : PySem.W.Frag} {a c : Expr} {ta tc : TE} {wa wc : EW} {pos : Pos}
theorem Got.dlp {b : Option Addr} {F H : Hp} {v : V} {t : T} {ds : List D} (h : Got K b F H v t) (e : Same F H) (q : t.dl? = some ds) (p : arePy ds = true) : Dp K H v (.list (pys ds)) := by
  obtain ⟨a, vs, rfl, h1, h2⟩ := h.dl e q
  exact .lst (.inl (.inl h1)) (Reps.dp e h2 p)
theorem sor_inD {neg : Bool} : SoR K (rInDA K neg) (fInD neg) := fun b F H x y tx ty e gx gy Q' h Q q => by
  obtain ⟨d, ds, rfl, h1, p1, p2, s1, s2, h⟩ := h
  cases neg with
  | true => exact ⟨_, _, gx.inv_st.dp e.1 p1, gy.dlp e.1 h1 p2, s1, s2, q _ _ F H e.refl (.st (.bl _)) h⟩
  | false => exact ⟨_, _, gx.inv_st.dp e.1 p1, gy.dlp e.1 h1 p2, s1, s2, q _ _ F H e.refl (.st (.bl _)) h⟩
theorem x_inD (hK : X.K = K) (hu : X.A.units + 65 < cLine) (ha : PEw K X a ta wa) (hb : PEw K X c tc wc) (hm : behindInMarks .In c = false := by rfl) : PEw K X (.Compare a [.In] [c] pos) (tOp (rInDA K false) ta tc) (wOp (fInD false) wa wc) := by subst hK; exact ⟨pe_cmpR (op_inD hu) ha.pe hb.pe hm, so_op ha.so hb.so sor_inD⟩
theorem x_ninD (hK : X.K = K) (hu : X.A.units + 65 < cLine) (ha : PEw K X a ta wa) (hb : PEw K X c tc wc) (hm : behindInMarks .NotIn c = false := by rfl) : PEw K X (.Compare a [.NotIn] [c] pos) (tOp (rInDA K true) ta tc) (wOp (fInD true) wa wc) := by subst hK; exact ⟨pe_cmpR (op_notInD hu) ha.pe hb.pe hm, so_op ha.so hb.so sor_inD⟩
theorem t_inD (hK : X.K = K) (hu : X.A.units + 65 < cLine) (ha : PEw K X a ta wa) (hb : PEw K X c tc wc) (hm : behindInMarks .In c = false := by rfl) : PTw K X (.Compare a [.In] [c] pos) (tTest (tOp (rInDA K false) ta tc)) (wTest (wOp (fInD false) wa wc)) := by subst hK; exact ⟨pt_cmpR (op_inD hu) ha.pe hb.pe hm, so_test (so_op ha.so hb.so sor_inD)⟩
theorem t_ninD (hK : X.K = K) (hu : X.A.units + 65 < cLine) (ha : PEw K X a ta wa) (hb : PEw K X c tc wc) (hm : behindInMarks .NotIn c = false := by rfl) : PTw K X (.Compare a [.NotIn] [c] pos) (tTest (tOp (rInDA K true) ta tc)) (wTest (wOp (fInD true) wa wc)) := by subst hK; exact ⟨pt_cmpR (op_notInD hu) ha.pe hb.pe hm, so_test (so_op ha.so hb.so sor_inD)⟩
end
end Pw
namespace Pw
open PySem PySem.Spec PyProof.Rows L2
local macro_rules | `(tactic| walk_at "pw") => `(tactic| simp only [wV, wC, wOp, wUn, wTest, wAnd, wOr, wNot, wTru, wIf, wNil, wCons, wTup, wLst, wFz, wNw, wDk, wDt, wCB, wM, wM1, wCall, wGet2, wSl, wSo, wNo, wRev, wItS, wRg1, wRg2, wRg3, wEnum, wLc, wDc, wDisp, wPairs, wYes, sNext, sSeq, sAsg, sNew, sAsgT, sFrz, sDrop, sRet, sRetV, sRetN, sIf, sFor, sAugI, sApp, sSet, sSet2, sApp2, sDAug, sAppPop, sSdApp, sExt, sNever, setT_nm, setT_tp, setTs_nil, setTs_cons, T.it?, T.il?, plainL, startE, wipeE, List.map_cons, List.map_nil, List.length_cons, List.length_nil, List.replicate_succ, List.replicate_zero, List.cons_append, List.nil_append, List.append_nil, List.getElem?_cons_zero, List.getElem?_cons_succ, List.set_cons_zero, List.set_cons_succ, Option.some.injEq, T.st.injEq, T.vl.injEq, T.vk.injEq, D.tup.injEq, D.lst.injEq, D.int.injEq, D.str.injEq, D.bl.injEq, List.cons.injEq, exists_eq', exists_eq, Int.toNat_natCast, rng_eq, List.length_map, List.length_range, exists_eq_left', exists_eq_left, exists_and_left, and_true, true_and, Option.bind_some, Option.map_some, fGet_tup, fGet_lst, fGet_vl, fGet_str, fGet_dk, fGet_vk, fII_st, fAdd_int, fAdd_str, fAdd_lst, fAdd_lv, fEqA_int, fEqA_str, fNotN_non, fNotN_int, fIsN_non, fIsN_int, fLen_lst, fLen_tup, fLen_vl, fLen_str, dl_strN, dl_lst, reduceCtorEq, false_and, and_false, exists_false, false_or, or_false, fInt_int, fInt_bl, fTuple_lst, fTuple_vl, fTuple_tup, fList_tup, fList_lst, fMax_2, fMax_3, fMin_2, atI_0, atI_1, atI_2, atI_3, atI_4, erase_st, decide_eq_true_eq, Bool.false_eq_true, if_true, if_false, take_iff, isD_vk, isD_dk, gV, gD, pV, posV, sz_vk, sz_vl, kK_str, ch_vk, ch_vl, setCh_vk, setCh_vl, atI_tab, Option.getD_some, Option.getD_none, posL, putL_vl, gDt, ite_true, ite_false])
section
variable {K : PySem.W.Frag} {i j : Nat} {ta tb : TE} {wa wb : EW} {tt tu : TT} {wt wu : TW}
/-- the last member of a list, by its other name -/
def wLast (i : Nat) : EW := fun env Q => ∃ ts es, env[i]? = some (some (.vl (ts ++ [.vk es]))) ∧ Q (.vk es)
theorem sl_alias : SoEL K i j (tVar j) (wLast i) := fun b F0 H0 F H σ env O Q' ⟨ts, es, e0, h2⟩ Q q => by
  obtain ⟨a0, hs, g1⟩ := O.last e0
  exact ⟨_, hs, q _ _ F H (.refl O.ok.same) g1 h2⟩
theorem SoE.l (h : SoE K ta wa) : SoEL K i j ta wa := fun b F0 H0 F H σ env O Q' h1 Q q => h _ _ _ _ _ _ _ O.ok Q' h1 Q q
theorem sl_opL {r : R2} {fr : T → T → (T → Prop) → Prop} (ha : SoEL K i j ta wa) (hb : SoE K tb wb) (hr : SoR K r fr) : SoEL K i j (tOp r ta tb) (wOp fr wa wb) := fun b F0 H0 F H σ env O Q' h Q q =>
  ha _ _ _ _ _ _ _ O _ h _ fun x tx F1 H1 S1 g1 h1 => hb _ _ _ _ _ _ _ (O.step S1).ok _ h1 _ fun y ty F2 H2 S2 g2 h2 =>
    hr b F2 H2 x y tx ty ((O.ok.step S1).step S2).fit (g1.step S2) g2 Q' h2 Q fun v tt F3 H3 S3 g3 h3 => q v tt F3 H3 ((S1.trans S2).trans S3) g3 h3
theorem sl_or (h : SoTL K i j tt wt) (h' : SoTL K i j tu wu) : SoTL K i j (tOr tt tu) (wOr wt wu) := fun b F0 H0 F H σ env O Q' h1 Q q =>
  h _ _ _ _ _ _ _ O _ h1 _ fun c F1 H1 S1 h2 => by
    cases c with
    | true => exact q true F1 H1 S1 h2
    | false => exact h' _ _ _ _ _ _ _ (O.step S1) _ h2 _ fun c F2 H2 S2 h3 => q c F2 H2 (S1.trans S2) h3
end
def encN : Option Nat → D
  | none => .non
  | some n => .int n
def encP (p : Int × Option Nat) : D := .tup [.int p.1, encN p.2]
abbrev LG := Str → Option (Int × Option Nat)
def LayT (es : List (Key × T)) (h : LG) : Prop := ∀ y : Str, look es (.inr y) = (h y).map fun p => T.st (encP p)
def LayD (es : List (Key × D)) (h : LG) : Prop := ∀ y : Str, look es (.inr y) = (h y).map encP
def fstO (h : LG) : Str → Option Int := fun y => (h y).map (·.1)
def Back (w : Wk) (G : Nat → LG) (c : Nat) : Prop := ∀ y p i, G c y = some (p, some i) → ∃ t, w.ties[i]? = some t ∧ t.goal = y ∧ t.count ≤ (c : Int) ∧ (G (c - t.count.toNat) t.start).isSome = true
theorem Back.mono {w : Wk} {G : Nat → LG} {c : Nat} (h : Back w G c) {h' : LG} (up : ∀ y, (G c y).isSome = true → (h' y).isSome = true) (bk : ∀ y p i, h' y = some (p, some i) → (G c y = some (p, some i)) ∨ ∃ t, w.ties[i]? = some t ∧ t.goal = y ∧ t.count ≤ (c : Int) ∧ (G (c - t.count.toNat) t.start).isSome = true) : Back w (fun k => if k = c then h' else G k) c := by
  have key : ∀ (k : Nat) (x : Str), (G k x).isSome = true → ((fun k => if k = c then h' else G k) k x).isSome = true := by
    intro k x hx
    by_cases q : k = c
    · subst q; simp only [if_true]; exact up x hx
    · simp only [if_neg q]; exact hx
  intro y p i e
  simp only [if_true] at e
  rcases bk y p i e with e | ⟨t, h1, h2, h3, h4⟩
  · obtain ⟨t, h1, h2, h3, h4⟩ := h y p i e
    exact ⟨t, h1, h2, h3, key _ _ h4⟩
  · exact ⟨t, h1, h2, h3, key _ _ h4⟩
def sp_longest_times : PSp := fun ds R => ∃ (w : Wk) (a : Str) (many : Nat), ds = [enc w, .str a, .int many] ∧ w.Ok ∧ w.Endless ∧ a ∈ w.names ∧ many ≤ 9000 ∧
  ∀ (ES : Nat → List (Key × D)) (G : Nat → LG), (∀ c, c < many + 1 → LayD (ES c) (G c) ∧ (∀ y, IsGr w a y c (fstO (G c) y)) ∧ Back w G c) → R (.lst ((List.range (many + 1)).map fun c => .dk (ES c)))
theorem l_longest_times : ∀ ds R, sp_longest_times ds R → ds.length = 3 := by rintro ds R ⟨w, a, m, rfl, _⟩; rfl
def times2 : SW := (sFor (wEnum (wCons (wV 3) wNil)) (.tp ((.nm 9) :: ((.nm 10) :: []))) (sIf (wAnd (wTest (wOp fLe (wOp fGet (wV 10) (wC (.int 3))) (wV 6))) (wTest (wOp (fInA false) (wOp fGet (wV 10) (wC (.int 1))) (wOp fGet (wV 5) (wOp fSub (wV 6) (wOp fGet (wV 10) (wC (.int 3))))))))
  (sSeq (sAsg 11 (wOp fAdd (wOp fGet (wOp fGet (wOp fGet (wV 5) (wOp fSub (wV 6) (wOp fGet (wV 10) (wC (.int 3))))) (wOp fGet (wV 10) (wC (.int 1)))) (wC (.int 0))) (wOp fGet (wV 4) (wOp fGet (wV 10) (wC (.int 1))))))
    (sIf (wOr (wTest (wOp (fInA true) (wOp fGet (wV 10) (wC (.int 2))) (wLast 5))) (wTest (wOp fGt (wV 11) (wOp fGet (wOp fGet (wLast 5) (wOp fGet (wV 10) (wC (.int 2)))) (wC (.int 0)))))) (sSetL 5 (wOp fGet (wV 10) (wC (.int 2))) (wTup (wCons (wV 11) (wCons (wV 9) wNil)))) sNext)) sNext))
def w_longest_times : SW := (sSeq (sAsg 3 (wCall sp_ties_of (wCons (wV 0) wNil)))
    (sSeq (sAsg 4 (wCall sp_times_of (wCons (wV 0) wNil)))
    (sSeq (sNew 5 (wLst wNil))
    (sSeq (sFor (wRg1 (wCons (wOp fAdd (wV 2) (wC (.int 1))) wNil)) (.nm 6) (sSeq (sNew 7 (wIf (wTest (wOp fEqA (wV 6) (wC (.int 0)))) (wDisp [(wV 1, wTup (wCons (wC (.int 0)) (wCons (wC .non) wNil)))]) wDk))
      (sMove 5 7 (sFor (wRg1 (wCons (wOp fAdd (wCB fLen (wCons (wOp fGet (wV 0) (wC (.int 0))) wNil)) (wC (.int 1))) wNil)) (.nm 8) times2))))
    (sFrz 5 (sRet (wV 5)))))))
theorem fIn_vkN {neg : Bool} {es : List (Key × T)} {x : Str} {Q : T → Prop} (q : Q (.st (.bl (if neg then !(look es (.inr x)).isSome else (look es (.inr x)).isSome)))) : fInA neg (.st (.str x)) (.vk es) Q := .inr ⟨_, _, rfl, rfl, q⟩
theorem times2_ok {w : Wk} {ord : List Str} {a : Str} {many c s L : Nat} {ts : List T} {es : List (Key × T)} {G : Nat → LG} {h : LG} {E : EndsW} {j8 j9 j10 j11 : Option T} (hw : w.Ok) (ho : ord.Perm w.names) (top : ∀ t ∈ w.ties, t.count = 0 → ixOf ord t.start < ixOf ord t.goal)
    (hl : ts.length = c) (hp : ∀ k (hk : k < ts.length), ∃ es, ts[k] = .vk es ∧ LayT es (G k) ∧ ∀ y, IsGr w a y k (fstO (G k) y)) (he : LayT es h) (M : Mid w ord a c s [] (fstO h)) (B : Back w (fun k => if k = c then h else G k) c) (hL : es.length ≤ L) (hL2 : L ≤ 90000)
    (q : ∀ es' h', LayT es' h' → Mid w ord a c s w.ties (fstO h') → Back w (fun k => if k = c then h' else G k) c → es'.length ≤ L + w.ties.length → ∀ j9 j10 j11, E.nx [some (.st (enc w)), some (.st (.str a)), some (.st (.int many)), some (.st (.lst (w.ties.map encT))), some (.st (encTimes w)), some (.vl (ts ++ [.vk es'])), some (.st (.int c)), none, j8, j9, j10, j11]) :
    times2 E [some (.st (enc w)), some (.st (.str a)), some (.st (.int many)), some (.st (.lst (w.ties.map encT))), some (.st (encTimes w)), some (.vl (ts ++ [.vk es])), some (.st (.int c)), none, j8, j9, j10, j11] := by
  have tl := hw.tie_len
  unfold times2
  walk_at "pw"
  rw [enum_eq]
  refine forW_inv (fun p : Ti × Nat => D.tup [.int (p.2 : Int), encT p.1]) (fun pre env => ∃ (es : List (Key × T)) (h : LG) (j9 j10 j11 : Option T), env = [some (.st (enc w)), some (.st (.str a)), some (.st (.int many)), some (.st (.lst (w.ties.map encT))), some (.st (encTimes w)), some (.vl (ts ++ [.vk es])), some (.st (.int c)), none, j8, j9, j10, j11] ∧ LayT es h ∧ Mid w ord a c s (pre.map (·.1)) (fstO h) ∧ Back w (fun k => if k = c then h else G k) c ∧ es.length ≤ L + pre.length) ⟨es, h, _, _, _, rfl, he, M, B, by simpa using hL⟩ ?_ ?_
  · rintro pre ⟨t, ix⟩ post env N e ⟨es, h, j9, j10, j11, rfl, he, M, B, hL⟩ hN
    have hix : w.ties[ix]? = some t := by
      have : (t, ix) ∈ w.ties.zipIdx := by rw [e]; simp
      rw [List.mem_zipIdx_iff_getElem?] at this
      exact this
    have ht : t ∈ w.ties := List.mem_of_getElem? hix
    have h0 := hw.cnt t ht
    have hs := (hw.tie ht).1
    have hpl : pre.length ≤ 200 := by have := congrArg List.length e; simp at this; omega
    have keep : (ixOf ord t.goal ≤ s → ∀ c' u, c' + t.count.toNat = c → Walk w a t.start c' u → ∃ v, fstO h t.goal = some v ∧ u + w.time t.start ≤ v) → ∀ j9 j10 j11, N [some (.st (enc w)), some (.st (.str a)), some (.st (.int many)), some (.st (.lst (w.ties.map encT))), some (.st (encTimes w)), some (.vl (ts ++ [.vk es])), some (.st (.int c)), none, j8, j9, j10, j11] := fun ok j9 j10 j11 =>
      hN _ ⟨es, h, _, _, _, rfl, he, by rw [List.map_append]; exact M.keep ok, B, by simp; omega⟩
    rw [show encT (t, ix).1 = encT t from rfl, encT_eq]
    walk_at "pw"
    by_cases hc : t.count ≤ (c : Int)
    · rw [if_pos hc]
      obtain ⟨k, hk⟩ : ∃ k : Nat, k + t.count.toNat = c := ⟨c - t.count.toNat, by omega⟩
      have ek : (c : Int) - t.count = (k : Int) := by omega
      rw [ek]
      obtain ⟨es2, g2, hat, hlay, hsnd, hfull, hg2⟩ : ∃ es2 g2, (ts ++ [T.vk es])[k]? = some (.vk es2) ∧ LayT es2 g2 ∧ (∀ v, fstO g2 t.start = some v → Walk w a t.start k v) ∧ (ixOf ord t.goal ≤ s → ∀ u, Walk w a t.start k u → ∃ v, fstO g2 t.start = some v ∧ u ≤ v) ∧ g2 = (fun k => if k = c then h else G k) k := by
        by_cases hkc : k < ts.length
        · obtain ⟨es2, e1, e2, e3⟩ := hp k hkc
          refine ⟨es2, G k, by rw [List.getElem?_append_left hkc, List.getElem?_eq_getElem hkc, e1], e2, fun v hv => ?_, fun _ u hu => ?_, by simp only [if_neg (show ¬ k = c by omega)]⟩
          · have := e3 t.start
            rw [hv] at this
            exact this.1
          · have := e3 t.start
            cases e4 : fstO (G k) t.start with
            | none => rw [e4] at this; exact absurd hu (this u)
            | some v => rw [e4] at this; exact ⟨v, rfl, this.2 u hu⟩
        · have : k = c := by omega
          subst this
          refine ⟨es, h, by rw [List.getElem?_append_right (by omega)]; simp [hl], he, fun v hv => M.sound _ v hv, fun hr u hu => ?_, by simp only [if_true]⟩
          have := top t ht (by omega)
          exact M.full _ hs (by omega) u hu
      rw [atI_get, hat]
      refine ⟨_, rfl, fIn_vk ⟨_, rfl, ?_⟩⟩
      rw [hlay t.start]
      cases eg : g2 t.start with
      | none =>
        rw [if_neg (by simp)]
        refine keep (fun hr c' u e1 hu => ?_) _ _ _
        have : c' = k := by omega
        subst this
        obtain ⟨v, h1, _⟩ := hfull hr u hu
        unfold fstO at h1
        rw [eg] at h1; cases h1
      | some p =>
        obtain ⟨v, o⟩ := p
        rw [if_pos (by simp)]
        have efst : fstO g2 t.start = some v := by unfold fstO; rw [eg]; rfl
        have hwv := hsnd v efst
        refine ⟨_, rfl, ?_⟩
        rw [fGet_vk]
        refine ⟨_, _, rfl, by rw [hlay t.start, eg]; rfl, ?_⟩
        unfold encP
        walk_at "pw"
        unfold encTimes
        rw [fGet_dk]
        refine ⟨_, _, rfl, look_times hw hs, ?_⟩
        walk_at "pw"
        unfold wLast
        refine ⟨ts, es, rfl, fIn_vkN ⟨_, rfl, ?_⟩⟩
        rw [he t.goal]
        have hnw : Walk w a t.goal c (v + w.time t.start) := hwv.snoc ht rfl hk.symm rfl
        have upd : (∀ u, fstO h t.goal = some u → u ≤ v + w.time t.start) → sSetL 5 (wOp fGet (wV 10) (wC (.int 2))) (wTup (wCons (wV 11) (wCons (wV 9) wNil))) { nx := N, rt := E.rt, bk := E.nx, ct := N, rv := E.rv } [some (.st (enc w)), some (.st (.str a)), some (.st (.int many)), some (.st (.lst (w.ties.map encT))), some (.st (encTimes w)), some (.vl (ts ++ [.vk es])), some (.st (.int c)), none, j8, some (.st (.int ix)), some (.st (encT t)), some (.st (.int (v + w.time t.start)))] := by
          intro hup
          unfold sSetL
          rw [encT_eq]
          walk_at "pw"
          refine ⟨by decide, ts, es, rfl, by omega, ?_⟩
          refine hN _ ⟨_, fun y => if y = t.goal then some (v + w.time t.start, some ix) else h y, _, _, _, rfl, fun y => ?_, ?_, ?_, ?_⟩
          · rw [look_putL]
            by_cases q : y = t.goal
            · subst q; simp [encP, encN]
            · have ne : (Sum.inr y : Key) ≠ .inr t.goal := fun z => q (Sum.inr.inj z)
              rw [if_neg ne]
              show look es (.inr y) = Option.map _ (if y = t.goal then _ else h y)
              rw [if_neg q]
              exact he y
          · rw [List.map_append]
            have ef : fstO (fun y => if y = t.goal then some (v + w.time t.start, some ix) else h y) = fun y => if y = t.goal then some (v + w.time t.start) else fstO h y := by
              funext y
              unfold fstO
              by_cases q : y = t.goal
              · simp [q]
              · simp [q]
            rw [ef]
            show Mid w ord a c s (pre.map (·.1) ++ [t]) _
            refine (M.set hnw hup).keep fun hr c' u e1 hu => ⟨v + w.time t.start, by simp, ?_⟩
            have : c' = k := by omega
            subst this
            obtain ⟨z, z1, z2⟩ := hfull hr u hu
            rw [efst] at z1; cases z1
            omega
          · have := Back.mono B (h' := fun y => if y = t.goal then some (v + w.time t.start, some ix) else h y) (fun y hy => ?_) (fun y p i e => ?_)
            · have e2 : (fun k => if k = c then (fun y => if y = t.goal then some (v + w.time t.start, some ix) else h y) else (fun k => if k = c then h else G k) k) = (fun k => if k = c then (fun y => if y = t.goal then some (v + w.time t.start, some ix) else h y) else G k) := by
                funext k
                by_cases q : k = c
                · simp [q]
                · simp [q]
              rw [e2] at this
              exact this
            · simp only [if_true] at hy
              by_cases q : y = t.goal
              · simp [q]
              · simp [q, hy]
            · by_cases q : y = t.goal
              · subst q
                simp only [if_true, Option.some.injEq, Prod.mk.injEq] at e
                obtain ⟨_, e⟩ := e
                subst e
                right
                refine ⟨t, hix, rfl, hc, ?_⟩
                have hg3 : g2 = if k = c then h else G k := hg2
                rw [show c - t.count.toNat = k by omega, ← hg3, eg]
                rfl
              · simp only [if_neg q] at e
                left
                simp only [if_true]
                exact e
          · have := putL_len (es := es) (k := (Sum.inr t.goal : Key)) (u := T.st (D.tup [D.int (v + w.time t.start), D.int (ix : Int)]))
            simp
            omega
        cases eh : h t.goal with
        | none =>
          simp only [Option.map_none, Option.isSome_none, Bool.not_false, if_true]
          refine upd fun u hu => ?_
          unfold fstO at hu
          rw [eh] at hu; cases hu
        | some p =>
          obtain ⟨z, oz⟩ := p
          simp only [Option.map_some, Option.isSome_some, Bool.not_true, Bool.false_eq_true, if_false, if_true]
          refine ⟨ts, es, rfl, ?_⟩
          walk_at "pw"
          refine ⟨_, by rw [he t.goal, eh]; rfl, ?_⟩
          unfold encP
          walk_at "pw"
          by_cases hgt : z < v + w.time t.start
          · rw [if_pos hgt]
            refine upd fun u hu => ?_
            unfold fstO at hu
            rw [eh] at hu
            have : z = u := by simpa using hu
            omega
          · rw [if_neg hgt]
            refine keep (fun hr c' u e1 hu => ?_) _ _ _
            have : c' = k := by omega
            subst this
            obtain ⟨z', z1, z2⟩ := hfull hr u hu
            rw [efst] at z1; cases z1
            exact ⟨z, by unfold fstO; rw [eh]; rfl, by omega⟩
    · rw [if_neg hc]
      exact keep (fun _ c' u e1 _ => by omega) _ _ _
  · rintro env ⟨es, h, j9, j10, j11, rfl, he, M, B, hL⟩
    have e1 : w.ties.zipIdx.map (·.1) = w.ties := by simp
    rw [e1] at M
    rw [List.length_zipIdx] at hL
    exact q es h he M B hL _ _ _
theorem p_longest_times : ∀ ds R, sp_longest_times ds R → w_longest_times { nx := fun _ => R .non, rt := R } (startE 12 ds) := by
  rintro ds R ⟨w, a, many, rfl, hw, he, ha, hmany, q⟩
  obtain ⟨ord, ho, top⟩ := he
  have nl := hw.nlen
  have tl := hw.tie_len
  unfold w_longest_times
  walk_at "pw"
  refine ⟨w, rfl, hw, ?_⟩
  refine ⟨w, rfl, hw, ?_⟩
  refine ⟨by omega, by omega, by omega, ?_⟩
  rw [show ((many : Int) + 1).toNat = many + 1 by omega]
  refine forW_rng (fun c env => ∃ (ES : Nat → List (Key × T)) (G : Nat → LG) (j6 j8 j9 j10 j11 : Option T), env = [some (.st (enc w)), some (.st (.str a)), some (.st (.int many)), some (.st (.lst (w.ties.map encT))), some (.st (encTimes w)), some (.vl ((List.range c).map fun k => .vk (ES k))), j6, none, j8, j9, j10, j11] ∧ ∀ k, k < c → LayT (ES k) (G k) ∧ (∀ y, IsGr w a y k (fstO (G k) y)) ∧ Back w G k) ⟨fun _ => [], fun _ _ => none, _, _, _, _, _, rfl, fun k hk => absurd hk (by omega)⟩ ?_ ?_
  · rintro c env N hc ⟨ES, G, j6, j8, j9, j10, j11, rfl, hG⟩ hN
    have main : ∀ (es : List (Key × T)) (h : LG) (E : EndsW), E.nx = N → LayT es h → Mid w ord a c 0 [] (fstO h) → Back w (fun k => if k = c then h else G k) c → es.length ≤ 1 → sMove 5 7 (sFor (wRg1 (wCons (wOp fAdd (wCB fLen (wCons (wOp fGet (wV 0) (wC (.int 0))) wNil)) (wC (.int 1))) wNil)) (.nm 8) times2) E [some (.st (enc w)), some (.st (.str a)), some (.st (.int many)), some (.st (.lst (w.ties.map encT))), some (.st (encTimes w)), some (.vl ((List.range c).map fun k => .vk (ES k))), some (.st (.int c)), some (.vk es), j8, j9, j10, j11] := by
      intro es h E hE hl M B hes
      unfold sMove enc
      refine ⟨_, es, rfl, rfl, by rw [List.length_map, List.length_range]; omega, ?_⟩
      walk_at "pw"
      have ml : w.ms.length = w.names.length := by unfold Wk.names; rw [List.length_map]
      refine ⟨by omega, by omega, ?_⟩
      rw [show ((w.ms.length : Int) + 1).toNat = w.ms.length + 1 by omega]
      refine forW_rng (fun s env => ∃ (es : List (Key × T)) (h : LG) (j8 j9 j10 j11 : Option T), env = [some (.st (enc w)), some (.st (.str a)), some (.st (.int many)), some (.st (.lst (w.ties.map encT))), some (.st (encTimes w)), some (.vl (((List.range c).map fun k => .vk (ES k)) ++ [.vk es])), some (.st (.int c)), none, j8, j9, j10, j11] ∧ LayT es h ∧ Mid w ord a c s [] (fstO h) ∧ Back w (fun k => if k = c then h else G k) c ∧ es.length ≤ 1 + s * 200) ⟨es, h, _, _, _, _, rfl, hl, M, B, by omega⟩ ?_ ?_
      · rintro s env N2 hs ⟨es, h, j8, j9, j10, j11, rfl, hl, M, B, hL⟩ hN2
        refine ⟨_, setT_nm _ _ _, ?_⟩
        refine times2_ok (many := many) (G := G) (L := 1 + s * 200) hw ho top (by rw [List.length_map, List.length_range]) (fun k hk => ?_) hl M B hL (by omega) fun es' h' hl' M' B' hL' j9 j10 j11 => hN2 _ ⟨es', h', _, _, _, _, rfl, hl', M'.next, B', by omega⟩
        have hk' : k < c := by simpa using hk
        exact ⟨ES k, by simp, (hG k hk').1, (hG k hk').2.1⟩
      · rintro env ⟨es, h, j8, j9, j10, j11, rfl, hl, M, B, hL⟩
        rw [hE]
        have gr := M.done hw ho ha (by omega)
        have e : (((List.range c).map fun k => T.vk (ES k)) ++ [T.vk es]) = (List.range (c + 1)).map fun k => T.vk (updN ES c es k) := by
          rw [List.range_succ, List.map_append]
          congr 1
          · refine List.map_congr_left fun j hj => ?_
            rw [updN_ne]
            have : j < c := by simpa using hj
            omega
          · simp
        rw [e]
        refine hN _ ⟨updN ES c es, (fun k => if k = c then h else G k), _, _, _, _, _, rfl, fun k hk => ?_⟩
        by_cases q : k = c
        · subst q
          rw [updN_same]
          simp only [if_true]
          exact ⟨hl, gr, B⟩
        · rw [updN_ne q]
          simp only [if_neg q]
          obtain ⟨g1, g2, g3⟩ := hG k (by omega)
          refine ⟨g1, g2, ?_⟩
          intro y p i e
          simp only [if_neg q] at e
          obtain ⟨t, h1, h2, h3, h4⟩ := g3 y p i e
          refine ⟨t, h1, h2, h3, ?_⟩
          simp only [if_neg (show ¬ k - t.count.toNat = c by omega)]
          exact h4
    refine ⟨_, setT_nm _ _ _, ?_⟩
    unfold sSeq sNew
    walk_at "pw"
    split
    · rename_i h0
      have c0 : c = 0 := by omega
      refine ⟨by simp, [(.inr a, encP (0, none))], rfl, ?_, by simp, ?_⟩
      · intro i k x hi
        match i with
        | 0 => simp at hi; obtain ⟨rfl, rfl⟩ := hi; exact ⟨_, rfl, rfl⟩
        | i + 1 => simp at hi
      · have em : mergeT [((.inr a : Key), encP (0, none))] = [(.inr a, .st (encP (0, none)))] := by
          unfold mergeT
          simp only [List.foldl_cons, List.foldl_nil]
          unfold putL; simp
        rw [em]
        refine main _ (fun y => if y = a then some (0, none) else none) _ rfl (fun y => ?_) ⟨?_, ?_, ?_, ?_⟩ ?_ (by simp)
        · by_cases q : y = a
          · subst q; simp [look]
          · have ne : (Sum.inr a : Key) ≠ .inr y := fun z => q (Sum.inr.inj z).symm
            simp [look, q, Ne.symm q]
        · intro y v hv
          unfold fstO at hv
          by_cases q : y = a
          · subst q; simp at hv; subst hv; rw [c0]; exact .nil _
          · simp [q] at hv
        · intro _; exact ⟨0, by simp [fstO], by omega⟩
        · intro y hy hs; omega
        · intro t ht; cases ht
        · intro y p i e
          simp only [if_true] at e
          by_cases q : y = a
          · simp [q] at e
          · simp [q] at e
    · rename_i h0
      refine main [] (fun _ => none) _ rfl (fun y => by simp [look]) ⟨?_, ?_, ?_, ?_⟩ ?_ (by simp)
      · intro y v hv; cases hv
      · intro e; omega
      · intro y hy hs; omega
      · intro t ht; cases ht
      · intro y p i e
        simp only [if_true] at e
        cases e
  · rintro env ⟨ES, G, j6, j8, j9, j10, j11, rfl, hG⟩
    walk_at "pw"
    have e : (T.vl ((List.range (many + 1)).map fun k => T.vk (ES k))).erase = .lst ((List.range (many + 1)).map fun k => .dk (eraseK (ES k))) := by
      simp only [T.erase, erases_map, List.map_map]
      congr 1
    rw [e]
    refine q (fun c => eraseK (ES c)) G fun c hc => ⟨fun y => ?_, (hG c hc).2⟩
    rw [look_eraseK, (hG c hc).1 y]
    cases G c y with
    | none => rfl
    | some p => simp
end Pw
namespace Pw
open PySem PySem.Spec PyProof.Rows L2
local macro_rules | `(tactic| walk_at "pw") => `(tactic| simp only [wV, wC, wOp, wUn, wTest, wAnd, wOr, wNot, wTru, wIf, wNil, wCons, wTup, wLst, wFz, wNw, wDk, wDt, wCB, wM, wM1, wCall, wGet2, wSl, wSo, wNo, wRev, wItS, wRg1, wRg2, wRg3, wEnum, wLc, wDc, wDisp, wPairs, wYes, sNext, sSeq, sAsg, sNew, sAsgT, sFrz, sDrop, sRet, sRetV, sRetN, sIf, sFor, sAugI, sApp, sSet, sSet2, sApp2, sDAug, sAppPop, sSdApp, sExt, sNever, setT_nm, setT_tp, setTs_nil, setTs_cons, T.it?, T.il?, plainL, startE, wipeE, List.map_cons, List.map_nil, List.length_cons, List.length_nil, List.replicate_succ, List.replicate_zero, List.cons_append, List.nil_append, List.append_nil, List.getElem?_cons_zero, List.getElem?_cons_succ, List.set_cons_zero, List.set_cons_succ, Option.some.injEq, T.st.injEq, T.vl.injEq, T.vk.injEq, D.tup.injEq, D.lst.injEq, D.int.injEq, D.str.injEq, D.bl.injEq, List.cons.injEq, exists_eq', exists_eq, Int.toNat_natCast, rng_eq, List.length_map, List.length_range, exists_eq_left', exists_eq_left, exists_and_left, and_true, true_and, Option.bind_some, Option.map_some, fGet_tup, fGet_lst, fGet_vl, fGet_str, fGet_dk, fGet_vk, fII_st, fAdd_int, fAdd_str, fAdd_lst, fAdd_lv, fEqA_int, fEqA_str, fNotN_non, fNotN_int, fIsN_non, fIsN_int, fLen_lst, fLen_tup, fLen_vl, fLen_str, dl_strN, dl_lst, reduceCtorEq, false_and, and_false, exists_false, false_or, or_false, fInt_int, fInt_bl, fTuple_lst, fTuple_vl, fTuple_tup, fList_tup, fList_lst, fMax_2, fMax_3, fMin_2, atI_0, atI_1, atI_2, atI_3, atI_4, erase_st, decide_eq_true_eq, Bool.false_eq_true, if_true, if_false, take_iff, isD_vk, isD_dk, gV, gD, pV, posV, sz_vk, sz_vl, kK_str, ch_vk, ch_vl, setCh_vk, setCh_vl, atI_tab, Option.getD_some, Option.getD_none, posL, putL_vl, gDt, ite_true, ite_false, wSortSc])
/-! ### sorted texts -/
theorem rising_pw : ∀ (xs : List Str) (p : Str), risingS p xs = true → (p :: xs).Pairwise fun x y => x.cps.toList ≤ y.cps.toList
  | [], p, _ => by simp
  | x :: r, p, h => by
    unfold risingS at h
    rw [Bool.and_eq_true, Bool.not_eq_true', ltCps_eq, decide_eq_false_iff_not, List.not_lt] at h
    have ih := rising_pw r x h.2
    refine List.pairwise_cons.mpr ⟨fun y hy => ?_, ih⟩
    rcases List.mem_cons.mp hy with rfl | hy
    · exact h.1
    · exact List.le_trans h.1 ((List.pairwise_cons.mp ih).1 y hy)
theorem sortedS_pw {xs : List Str} (h : sortedS xs = true) : xs.Pairwise fun x y => x.cps.toList ≤ y.cps.toList := by
  cases xs with
  | nil => exact .nil
  | cons x r => exact rising_pw r x h
theorem str_ext {x y : Str} (h : x.cps.toList = y.cps.toList) : x = y := by
  cases x; cases y
  congr 1
  exact Array.toList_inj.mp h
theorem sortedS_eq {xs ys : List Str} (h1 : sortedS xs = true) (h2 : sortedS ys = true) (p : xs.Perm ys) : xs = ys :=
  List.Perm.eq_of_pairwise (fun a b _ _ u v => str_ext (List.le_antisymm u v)) (sortedS_pw h1) (sortedS_pw h2) p
/-! ### what leads where -/
inductive RT (ts : List Ti) : Str → Str → Prop
  | refl (x : Str) : RT ts x x
  | step {x : Str} {t : Ti} : RT ts x t.start → t ∈ ts → RT ts x t.goal
theorem RT.step' {ts : List Ti} {x y : Str} {t : Ti} (h : RT ts x y) (ht : t ∈ ts) (e : y = t.start) : RT ts x t.goal := by subst e; exact .step h ht
theorem RT.trans {ts : List Ti} {x y z : Str} (h : RT ts x y) (g : RT ts y z) : RT ts x z := by
  induction g with
  | refl => exact h
  | step _ ht ih => exact .step ih ht
theorem RT.mem {ts : List Ti} {x y : Str} {P : Str → Prop} (h : RT ts x y) (hx : P x) (hc : ∀ t ∈ ts, P t.goal) : P y := by
  cases h with
  | refl => exact hx
  | step _ ht => exact hc _ ht
/-- each machine leads to each one -/
def Wk.Closed (w : Wk) : Prop := ∀ x ∈ w.names, ∀ y ∈ w.names, RT w.ties x y
/-- each machine is on a ring -/
def Wk.OnRings (w : Wk) : Prop := ∀ x ∈ w.names, ∃ t ∈ w.ties, t.start = x ∧ RT w.ties t.goal x
theorem outs_mem {ts : List Ti} {x : Str} {p : Ti × Nat} : p ∈ outs ts x ↔ ts[p.2]? = some p.1 ∧ p.1.start = x := by
  unfold outs
  rw [List.mem_filter, List.mem_zipIdx_iff_getElem?]
  simp
theorem outs_len (ts : List Ti) (x : Str) : (outs ts x).length ≤ ts.length := by
  unfold outs
  have := List.length_filter_le (fun p : Ti × Nat => decide (p.1.start = x)) ts.zipIdx
  rw [List.length_zipIdx] at this
  exact this
/-- leaving.get(x, []), read -/
theorem leaving_get {ts : List Ti} {es : List (Key × D)} (he : ∀ x : Str, look es (.inr x) = if outs ts x = [] then none else some (.lst ((outs ts x).map fun p => .int (p.2 : Int)))) (x : Str) :
    (((look es (.inr x)).map T.st).getD (.st (.lst []))) = T.st (.lst ((outs ts x).map fun p => .int (p.2 : Int))) := by
  rw [he x]
  by_cases h : outs ts x = []
  · rw [if_pos h, h]; rfl
  · rw [if_neg h]; rfl
theorem compS_mem {f : D → (Option Key → Prop) → Prop} {α : Type} (e : α → D) (p : α → Bool) (g : α → Str) : ∀ {xs : List α} {ks : List Str} {Q : List Key → Prop}, (∀ x ∈ xs, ∀ R : Option Key → Prop, R (if p x = true then some (.inr (g x)) else none) → f (e x) R) → ks.Nodup →
    (∀ ks' : List Str, ks'.Nodup → (∀ y, y ∈ ks' ↔ y ∈ ks ∨ ∃ x ∈ xs, p x = true ∧ g x = y) → Q (ks'.map Sum.inr)) → compS f (xs.map e) (ks.map Sum.inr) Q
  | [], ks, Q, _, nd, q => q ks nd fun y => by simp
  | x :: xs, ks, Q, h, nd, q => by
    refine h x (.head _) _ ?_
    cases hp : p x with
    | false =>
      simp only [Bool.false_eq_true, if_false]
      refine compS_mem e p g (fun y m => h y (.tail _ m)) nd fun ks' n' m' => q ks' n' fun y => ?_
      rw [m' y]
      constructor
      · rintro (h | ⟨z, h1, h2⟩)
        · exact .inl h
        · exact .inr ⟨z, .tail _ h1, h2⟩
      · rintro (h | ⟨z, h1, h2, h3⟩)
        · exact .inl h
        · rcases List.mem_cons.mp h1 with rfl | h1
          · rw [hp] at h2; cases h2
          · exact .inr ⟨z, h1, h2, h3⟩
    | true =>
      simp only [if_true]
      by_cases hm : g x ∈ ks
      · rw [addK_in (List.mem_map_of_mem hm)]
        refine compS_mem e p g (fun y m => h y (.tail _ m)) nd fun ks' n' m' => q ks' n' fun y => ?_
        rw [m' y]
        constructor
        · rintro (h | ⟨z, h1, h2⟩)
          · exact .inl h
          · exact .inr ⟨z, .tail _ h1, h2⟩
        · rintro (h | ⟨z, h1, h2, h3⟩)
          · exact .inl h
          · rcases List.mem_cons.mp h1 with rfl | h1
            · rw [← h3]; exact .inl hm
            · exact .inr ⟨z, h1, h2, h3⟩
      · rw [addK_new (fun z => by
          obtain ⟨u, h1, h2⟩ := List.mem_map.mp z
          exact hm (Sum.inr.inj h2 ▸ h1)), show (ks.map Sum.inr ++ [(Sum.inr (g x) : Key)]) = (ks ++ [g x]).map Sum.inr by simp]
        refine compS_mem e p g (fun y m => h y (.tail _ m)) (by
          rw [List.nodup_append]
          exact ⟨nd, by simp, fun a ha b hb => by
            rw [List.mem_singleton.mp hb]; rintro rfl; exact hm ha⟩) fun ks' n' m' => q ks' n' fun y => ?_
        rw [m' y, List.mem_append, List.mem_singleton]
        constructor
        · rintro ((h | h) | ⟨z, h1, h2⟩)
          · exact .inl h
          · exact .inr ⟨x, .head _, hp, h.symm⟩
          · exact .inr ⟨z, .tail _ h1, h2⟩
        · rintro (h | ⟨z, h1, h2, h3⟩)
          · exact .inl (.inl h)
          · rcases List.mem_cons.mp h1 with rfl | h1
            · exact .inl (.inr h3.symm)
            · exact .inr ⟨z, h1, h2, h3⟩
theorem fIn_strsV {neg : Bool} {x : Str} {xs : List Str} {Q : T → Prop} : fInA neg (.st (.str x)) (.vl (xs.map fun y => .st (.str y))) Q ↔ Q (.st (.bl (if neg then !decide (x ∈ xs) else decide (x ∈ xs)))) := by
  rw [← fIn_strs (neg := neg) (x := x) (xs := xs) (Q := Q)]
  have hd : (T.vl (xs.map fun y => T.st (D.str y))).dq? = some (xs.map D.str) := by
    have := dq_vl (xs.map D.str)
    rw [List.map_map] at this
    exact this
  have hd2 : (T.st (.lst (xs.map D.str))).dq? = some (xs.map D.str) := dq_lst _
  unfold fInA fIn
  rw [hd, hd2]
  constructor
  · rintro (h | ⟨k, o, _, h2, _⟩)
    · exact .inl h
    · simp [T.get?] at h2
  · rintro (h | ⟨k, o, _, h2, _⟩)
    · exact .inl h
    · simp [T.get?] at h2
def sp_reached_from : PSp := fun ds R => ∃ (w : Wk) (x : Str), ds = [enc w, .str x] ∧ w.Ok ∧ x ∈ w.names ∧ ∀ row : List Str, row.Nodup → (∀ y, y ∈ row ↔ RT w.ties x y) → R (.lst (row.map D.str))
theorem l_reached_from : ∀ ds R, sp_reached_from ds R → ds.length = 2 := by rintro ds R ⟨w, x, rfl, _⟩; rfl
def w_reached_from : SW := (sSeq (sAsg 2 (wCall sp_ties_of (wCons (wV 0) wNil)))
    (sSeq (sAsg 3 (wCall sp_leaving_of (wCons (wV 2) wNil)))
    (sSeq (sNew 4 (wLst (wCons (wV 1) wNil)))
    (sSeq (sAsg 5 (wC (.int 0)))
    (sSeq (sWhile (wTest (wOp fLt (wV 5) (wCB fLen (wCons (wV 4) wNil)))) (sSeq (sExt 4 (wSortSc (wItS (wGet2 (wV 3) (wOp fGet (wV 4) (wV 5)) (wFz (wLst wNil)))) (.nm 6) (wTest (wOp (fInA true) (wOp fGet (wOp fGet (wV 2) (wV 6)) (wC (.int 2))) (wV 4))) (wOp fGet (wOp fGet (wV 2) (wV 6)) (wC (.int 2))) [6]))
    (sAugI 5 (fun i j => i + j) (wC (.int 1)))))
    (sFrz 4 (sRet (wV 4))))))))
theorem p_reached_from : ∀ ds R, sp_reached_from ds R → w_reached_from { nx := fun _ => R .non, rt := R } (startE 7 ds) := by
  rintro ds R ⟨w, x, rfl, hw, hx, q⟩
  have nl := hw.nlen
  have tl := hw.tie_len
  unfold w_reached_from
  walk_at "pw"
  refine ⟨w, rfl, hw, ?_⟩
  refine ⟨w.ties, rfl, by omega, fun es he => ?_⟩
  refine ⟨by simp, ?_⟩
  refine while_inv (fun env => ∃ (row : List Str) (n : Nat), env = [some (.st (enc w)), some (.st (.str x)), some (.st (.lst (w.ties.map encT))), some (.st (.dk es)), some (.vl (row.map fun y => .st (.str y))), some (.st (.int n)), none] ∧
    row.Nodup ∧ x ∈ row ∧ (∀ y ∈ row, RT w.ties x y ∧ y ∈ w.names) ∧ n ≤ row.length ∧ ∀ i < n, ∀ t ∈ w.ties, row[i]? = some t.start → t.goal ∈ row) (fun env => w.names.length + 1 - intOf 5 env) ⟨[x], 0, rfl, by simp, by simp, ?_, by simp, fun i hi => absurd hi (by omega)⟩ ?_
  · intro y hy
    rw [List.mem_singleton.mp hy]
    exact ⟨.refl x, hx⟩
  rintro env N ⟨row, n, rfl, nd, xr, hr, hn, hc⟩ hN
  have rl : row.length ≤ w.names.length := len_sub nd fun y hy => (hr y hy).2
  walk_at "pw"
  by_cases hlt : n < row.length
  · rw [if_pos (by simpa using hlt)]
    have eat : L2.atI (row.map fun y => T.st (.str y)) (n : Int) = some (.st (.str row[n])) := by
      rw [atI_get, List.getElem?_map, List.getElem?_eq_getElem hlt]; rfl
    rw [eat]
    have hrn := hr row[n] (List.getElem_mem hlt)
    simp only [Option.some.injEq, exists_eq_left', T.erase, erases]
    walk_at "pw"
    rw [leaving_get he]
    refine ⟨by omega, _, rfl, by rw [List.length_map]; have := outs_len w.ties row[n]; omega, ?_⟩
    refine compS_mem (fun p : Ti × Nat => D.int (p.2 : Int)) (fun p => !decide (p.1.goal ∈ row)) (fun p => p.1.goal) (ks := []) (fun p hp R hR => ?_) List.nodup_nil fun ks' nd' hm => ?_
    · obtain ⟨h1, h2⟩ := outs_mem.mp hp
      have ea : L2.atI (w.ties.map encT) (p.2 : Int) = some (encT p.1) := by rw [atI_get, List.getElem?_map, h1]; rfl
      rw [fGet_lst]
      refine ⟨_, ea, ?_⟩
      rw [encT_eq]
      walk_at "pw"
      rw [fIn_strsV]
      refine ⟨_, rfl, ?_⟩
      by_cases hm : p.1.goal ∈ row
      · simp only [hm, decide_true, Bool.not_true, Bool.false_eq_true, if_false, if_true] at hR ⊢
        exact hR
      · simp only [hm, decide_false, Bool.not_false, if_true] at hR ⊢
        rw [ea]
        refine ⟨_, rfl, ?_⟩
        rw [encT_eq]
        walk_at "pw"
        exact hR
    · refine ⟨ks', rfl, fun ys hp _ => ?_⟩
      have hys : ∀ y, y ∈ ys ↔ ∃ t ∈ w.ties, t.start = row[n] ∧ t.goal ∉ row ∧ t.goal = y := by
        intro y
        rw [hp.mem_iff, hm]
        constructor
        · rintro (h | ⟨p, h1, h2, h3⟩)
          · cases h
          · obtain ⟨h4, h5⟩ := outs_mem.mp h1
            exact ⟨p.1, List.mem_of_getElem? h4, h5, by simpa using h2, h3⟩
        · rintro ⟨t, h1, h2, h3, h4⟩
          obtain ⟨i, hi⟩ := List.mem_iff_getElem?.mp h1
          exact .inr ⟨(t, i), outs_mem.mpr ⟨hi, h2⟩, by simpa using h3, h4⟩
      have nd2 : (row ++ ys).Nodup := by
        rw [List.nodup_append]
        refine ⟨nd, hp.nodup_iff.mpr nd', fun a ha b hb e => ?_⟩
        subst e
        obtain ⟨t, _, _, h3, h4⟩ := (hys a).mp hb
        rw [h4] at h3
        exact h3 ha
      have hr2 : ∀ y ∈ row ++ ys, RT w.ties x y ∧ y ∈ w.names := by
        intro y hy
        rcases List.mem_append.mp hy with hy | hy
        · exact hr y hy
        · obtain ⟨t, h1, h2, _, h4⟩ := (hys y).mp hy
          subst h4
          exact ⟨hrn.1.step' h1 h2.symm, (hw.tie h1).2⟩
      have rl2 : (row ++ ys).length ≤ w.names.length := len_sub nd2 fun y hy => (hr2 y hy).2
      have rl3 := rl2
      rw [List.length_append] at rl3
      refine ⟨by omega, hN _ ⟨row ++ ys, n + 1, ?_, nd2, List.mem_append_left _ xr, hr2, by rw [List.length_append]; omega, ?_⟩ ?_⟩
      · rw [List.map_append, List.map_map]; rfl
      · intro i hi t ht e
        by_cases hin : i < n
        · rw [List.getElem?_append_left (by omega)] at e
          exact List.mem_append_left _ (hc i hin t ht e)
        · have : i = n := by omega
          subst this
          rw [List.getElem?_append_left hlt, List.getElem?_eq_getElem hlt] at e
          have e := Option.some.inj e
          by_cases hg : t.goal ∈ row
          · exact List.mem_append_left _ hg
          · exact List.mem_append_right _ ((hys _).mpr ⟨t, ht, e.symm, hg, rfl⟩)
      · show w.names.length + 1 - (((n : Int) + 1).toNat) < w.names.length + 1 - ((n : Int).toNat)
        omega
  · rw [if_neg (by simpa using hlt)]
    rw [erase_strs]
    refine q row nd fun y => ⟨fun h => (hr y h).1, fun h => ?_⟩
    induction h with
    | refl => exact xr
    | @step t h ht ih =>
      obtain ⟨i, hi, e⟩ := List.mem_iff_getElem.mp ih
      exact hc i (by omega) t ht (by rw [List.getElem?_eq_getElem hi, e])
end Pw
namespace Pw
open PySem PySem.Spec PyProof.Rows L2
local macro_rules | `(tactic| walk_at "pw") => `(tactic| simp only [wV, wC, wOp, wUn, wTest, wAnd, wOr, wNot, wTru, wIf, wNil, wCons, wTup, wLst, wFz, wNw, wDk, wDt, wCB, wM, wM1, wCall, wGet2, wSl, wSo, wNo, wRev, wItS, wRg1, wRg2, wRg3, wEnum, wLc, wDc, wDisp, wPairs, wYes, sNext, sSeq, sAsg, sNew, sAsgT, sFrz, sDrop, sRet, sRetV, sRetN, sIf, sFor, sAugI, sApp, sSet, sSet2, sApp2, sDAug, sAppPop, sSdApp, sExt, sNever, setT_nm, setT_tp, setTs_nil, setTs_cons, T.it?, T.il?, plainL, startE, wipeE, List.map_cons, List.map_nil, List.length_cons, List.length_nil, List.replicate_succ, List.replicate_zero, List.cons_append, List.nil_append, List.append_nil, List.getElem?_cons_zero, List.getElem?_cons_succ, List.set_cons_zero, List.set_cons_succ, Option.some.injEq, T.st.injEq, T.vl.injEq, T.vk.injEq, D.tup.injEq, D.lst.injEq, D.int.injEq, D.str.injEq, D.bl.injEq, List.cons.injEq, exists_eq', exists_eq, Int.toNat_natCast, rng_eq, List.length_map, List.length_range, exists_eq_left', exists_eq_left, exists_and_left, and_true, true_and, Option.bind_some, Option.map_some, fGet_tup, fGet_lst, fGet_vl, fGet_str, fGet_dk, fGet_vk, fII_st, fAdd_int, fAdd_str, fAdd_lst, fAdd_lv, fEqA_int, fEqA_str, fNotN_non, fNotN_int, fIsN_non, fIsN_int, fLen_lst, fLen_tup, fLen_vl, fLen_str, dl_strN, dl_lst, reduceCtorEq, false_and, and_false, exists_false, false_or, or_false, fInt_int, fInt_bl, fTuple_lst, fTuple_vl, fTuple_tup, fList_tup, fList_lst, fMax_2, fMax_3, fMin_2, atI_0, atI_1, atI_2, atI_3, atI_4, erase_st, decide_eq_true_eq, Bool.false_eq_true, if_true, if_false, take_iff, isD_vk, isD_dk, gV, gD, pV, posV, sz_vk, sz_vl, kK_str, ch_vk, ch_vl, setCh_vk, setCh_vl, atI_tab, Option.getD_some, Option.getD_none, posL, putL_vl, gDt, ite_true, ite_false, wSortSc])
theorem erases_strs (xs : List Str) : erases (xs.map fun x => T.st (.str x)) = xs.map D.str := by
  have := erase_strs xs
  unfold T.erase at this
  exact D.lst.inj this
theorem countP_lt {α : Type} {p q : α → Bool} : ∀ {l : List α}, (∀ x ∈ l, p x = true → q x = true) → ∀ {a : α}, a ∈ l → p a = false → q a = true → l.countP p < l.countP q
  | x :: l, h, a, ha, hp, hq => by
    have hle : l.countP p ≤ l.countP q := List.countP_mono_left fun x hx => h x (.tail _ hx)
    rw [List.countP_cons, List.countP_cons]
    rcases List.mem_cons.mp ha with rfl | ha
    · rw [hp, hq]; simp; omega
    · have ih := countP_lt (fun x hx => h x (.tail _ hx)) ha hp hq
      cases hx : p x with
      | true => rw [h x (.head _) hx]; simp; omega
      | false => simp; split <;> omega
def miss (names row : List Str) : Nat := names.countP fun y => !decide (y ∈ row)
theorem miss_ext {names row es : List Str} (hn : ∀ y ∈ es, y ∈ names) (hr : ∀ y ∈ es, y ∉ row) (ne : es ≠ []) : miss names (row ++ es) + 1 ≤ miss names row := by
  obtain ⟨a, ha⟩ := List.exists_mem_of_ne_nil _ ne
  refine countP_lt (fun y _ h => ?_) (hn a ha) (by simp [ha]) (by simpa using hr a ha)
  simp at h ⊢
  exact h.1
theorem miss_le {names row : List Str} : miss names row ≤ names.length := List.countP_le_length
def sp_on_ring : PSp := fun ds R => ∃ (ts : List Ti) (names : List Str) (x : Str), ds = [.lst (ts.map encT), .str x] ∧ ts.length ≤ 300 ∧ names.length ≤ 100 ∧ (∀ t ∈ ts, t.start ∈ names ∧ t.goal ∈ names) ∧ ∀ b : Bool, (b = true ↔ ∃ t ∈ ts, t.start = x ∧ RT ts t.goal x) → R (.bl b)
theorem l_on_ring : ∀ ds R, sp_on_ring ds R → ds.length = 2 := by rintro ds R ⟨w, n, x, rfl, _⟩; rfl
def w_on_ring : SW := (sSeq (sAsg 2 (wCall sp_leaving_of (wCons (wV 0) wNil)))
    (sSeq (sNew 3 (wLc (wItS (wGet2 (wV 2) (wV 1) (wFz (wLst wNil)))) (.nm 4) wYes (wNw (wOp fGet (wOp fGet (wV 0) (wV 4)) (wC (.int 2)))) [4]))
    (sSeq (sAsg 4 (wC (.int 0)))
    (sSeq (sWhile (wTest (wOp fLt (wV 4) (wCB fLen (wCons (wV 3) wNil)))) (sSeq (sExt 3 (wFz (wLc (wItS (wGet2 (wV 2) (wOp fGet (wV 3) (wV 4)) (wFz (wLst wNil)))) (.nm 5) (wTest (wOp (fInA true) (wOp fGet (wOp fGet (wV 0) (wV 5)) (wC (.int 2))) (wV 3))) (wNw (wOp fGet (wOp fGet (wV 0) (wV 5)) (wC (.int 2)))) [5])))
    (sAugI 4 (fun i j => i + j) (wC (.int 1)))))
    (sRet (wOp (fInA false) (wV 1) (wV 3)))))))
theorem p_on_ring : ∀ ds R, sp_on_ring ds R → w_on_ring { nx := fun _ => R .non, rt := R } (startE 6 ds) := by
  rintro ds R ⟨ts, names, x, rfl, tl, nl, hts, q⟩
  unfold w_on_ring
  walk_at "pw"
  refine ⟨ts, rfl, by omega, fun es he => ?_⟩
  walk_at "pw"
  simp only [T.erase, erases]
  rw [leaving_get he]
  have getg : ∀ (y : Str) (p : Ti × Nat) (Q : T → Prop), p ∈ outs ts y → Q (.st (.str p.1.goal)) → fGet (.st (.lst (ts.map encT))) (.st (.int (p.2 : Int))) fun x => fGet x (.st (.int 2)) Q := by
    intro y p Q hp hQ
    obtain ⟨h1, h2⟩ := outs_mem.mp hp
    have ea : L2.atI (ts.map encT) (p.2 : Int) = some (encT p.1) := by rw [atI_get, List.getElem?_map, h1]; rfl
    rw [fGet_lst]
    refine ⟨_, ea, ?_⟩
    rw [encT_eq]
    walk_at "pw"
    exact hQ
  refine ⟨by omega, _, rfl, by rw [List.length_map]; have := outs_len ts x; omega, ?_⟩
  refine compW_map (fun p : Ti × Nat => D.int (p.2 : Int)) (fun p => .st (.str p.1.goal)) (fun p hp R hR => ?_) ?_
  · exact getg x p _ hp ⟨_, rfl, hR⟩
  have hrow0 : (outs ts x).map (fun p => T.st (D.str p.1.goal)) = ((outs ts x).map fun p => p.1.goal).map fun y => T.st (.str y) := by rw [List.map_map]; rfl
  rw [hrow0]
  have om : ∀ (y : Str) (t : Ti), t ∈ ts → t.start = y → ∃ p ∈ outs ts y, p.1 = t := by
    intro y t ht e
    obtain ⟨i, hi⟩ := List.mem_iff_getElem?.mp ht
    exact ⟨(t, i), outs_mem.mpr ⟨hi, e⟩, rfl⟩
  refine while_inv (fun env => ∃ (row : List Str) (n : Nat), env = [some (.st (.lst (ts.map encT))), some (.st (.str x)), some (.st (.dk es)), some (.vl (row.map fun y => .st (.str y))), some (.st (.int n)), none] ∧
    (∀ t ∈ ts, t.start = x → t.goal ∈ row) ∧ (∀ y ∈ row, (∃ t ∈ ts, t.start = x ∧ RT ts t.goal y) ∧ y ∈ names) ∧ n ≤ row.length ∧ row.length + 300 * miss names row ≤ 300 * 101 ∧ ∀ i < n, ∀ t ∈ ts, row[i]? = some t.start → t.goal ∈ row) (fun env => 300 * 101 + 1 - intOf 4 env) ⟨(outs ts x).map fun p => p.1.goal, 0, rfl, ?_, ?_, by omega, ?_, fun i hi => absurd hi (by omega)⟩ ?_
  · intro t ht e
    obtain ⟨p, hp, rfl⟩ := om x t ht e
    exact List.mem_map_of_mem (f := fun p : Ti × Nat => p.1.goal) hp
  · intro y hy
    obtain ⟨p, hp, rfl⟩ := List.mem_map.mp hy
    obtain ⟨h1, h2⟩ := outs_mem.mp hp
    have := List.mem_of_getElem? h1
    exact ⟨⟨p.1, this, h2, .refl _⟩, (hts _ this).2⟩
  · have h1 := miss_le (names := names) (row := (outs ts x).map fun p => p.1.goal)
    have h2 := outs_len ts x
    rw [List.length_map]
    omega
  rintro env N ⟨row, n, rfl, hs, hr, hn, hb, hc⟩ hN
  walk_at "pw"
  by_cases hlt : n < row.length
  · rw [if_pos (by simpa using hlt)]
    have eat : L2.atI (row.map fun y => T.st (.str y)) (n : Int) = some (.st (.str row[n])) := by
      rw [atI_get, List.getElem?_map, List.getElem?_eq_getElem hlt]; rfl
    rw [eat]
    have hrn := hr row[n] (List.getElem_mem hlt)
    simp only [Option.some.injEq, exists_eq_left', T.erase, erases]
    walk_at "pw"
    rw [leaving_get he]
    refine ⟨by omega, _, rfl, by rw [List.length_map]; have := outs_len ts row[n]; omega, ?_⟩
    refine compW_filt (fun p : Ti × Nat => D.int (p.2 : Int)) (fun p => !decide (p.1.goal ∈ row)) (fun p => .st (.str p.1.goal)) (fun p hp R hR => ?_) ?_
    · refine getg row[n] p _ hp ?_
      rw [fIn_strsV]
      refine ⟨_, rfl, ?_⟩
      by_cases hm : p.1.goal ∈ row
      · simp only [hm, decide_true, Bool.not_true, Bool.false_eq_true, if_false, if_true] at hR ⊢
        exact hR
      · simp only [hm, decide_false, Bool.not_false, if_true] at hR ⊢
        exact getg row[n] p _ hp ⟨_, rfl, hR⟩
    · have e1 : ((outs ts row[n]).filter fun p => !decide (p.1.goal ∈ row)).map (fun p => T.st (D.str p.1.goal)) = (((outs ts row[n]).filter fun p => !decide (p.1.goal ∈ row)).map fun p => p.1.goal).map fun y => T.st (.str y) := by rw [List.map_map]; rfl
      rw [e1, erases_strs]
      generalize hys : ((outs ts row[n]).filter fun p => !decide (p.1.goal ∈ row)).map (fun p => p.1.goal) = ys
      have yl : ys.length ≤ 300 := by
        rw [← hys, List.length_map]
        have h1 := List.length_filter_le (fun p : Ti × Nat => !decide (p.1.goal ∈ row)) (outs ts row[n])
        have h2 := outs_len ts row[n]
        omega
      have ym : ∀ y, y ∈ ys ↔ ∃ t ∈ ts, t.start = row[n] ∧ t.goal ∉ row ∧ t.goal = y := by
        intro y
        rw [← hys, List.mem_map]
        constructor
        · rintro ⟨p, h1, h2⟩
          obtain ⟨h1, h3⟩ := List.mem_filter.mp h1
          obtain ⟨h4, h5⟩ := outs_mem.mp h1
          exact ⟨p.1, List.mem_of_getElem? h4, h5, by simpa using h3, h2⟩
        · rintro ⟨t, h1, h2, h3, h4⟩
          obtain ⟨p, hp, rfl⟩ := om _ t h1 h2
          exact ⟨p, List.mem_filter.mpr ⟨hp, by simpa using h3⟩, h4⟩
      have hr2 : ∀ y ∈ row ++ ys, (∃ t ∈ ts, t.start = x ∧ RT ts t.goal y) ∧ y ∈ names := by
        intro y hy
        rcases List.mem_append.mp hy with hy | hy
        · exact hr y hy
        · obtain ⟨t, h1, h2, _, h4⟩ := (ym y).mp hy
          subst h4
          obtain ⟨⟨u, u1, u2, u3⟩, _⟩ := hrn
          exact ⟨⟨u, u1, u2, u3.step' h1 h2.symm⟩, (hts t h1).2⟩
      have hb2 : (row ++ ys).length + 300 * miss names (row ++ ys) ≤ 300 * 101 := by
        by_cases ne : ys = []
        · rw [ne, List.append_nil]; exact hb
        · have := miss_ext (names := names) (row := row) (es := ys) (fun y hy => (hr2 y (List.mem_append_right _ hy)).2) (fun y hy => by obtain ⟨t, _, _, h3, h4⟩ := (ym y).mp hy; rw [← h4]; exact h3) ne
          rw [List.length_append]
          omega
      have hb3 := hb2
      rw [List.length_append] at hb3
      refine ⟨by rw [List.length_map]; omega, hN _ ⟨row ++ ys, n + 1, ?_, fun t ht e => List.mem_append_left _ (hs t ht e), hr2, by rw [List.length_append]; omega, hb2, ?_⟩ ?_⟩
      · rw [List.map_append, List.map_map]; rfl
      · intro i hi t ht e
        by_cases hin : i < n
        · rw [List.getElem?_append_left (by omega)] at e
          exact List.mem_append_left _ (hc i hin t ht e)
        · have : i = n := by omega
          subst this
          rw [List.getElem?_append_left hlt, List.getElem?_eq_getElem hlt] at e
          have e := Option.some.inj e
          by_cases hg : t.goal ∈ row
          · exact List.mem_append_left _ hg
          · exact List.mem_append_right _ ((ym _).mpr ⟨t, ht, e.symm, hg, rfl⟩)
      · show 300 * 101 + 1 - (((n : Int) + 1).toNat) < 300 * 101 + 1 - ((n : Int).toNat)
        omega
  · rw [if_neg (by simpa using hlt), fIn_strsV]
    refine ⟨_, rfl, q _ ?_⟩
    simp only [Bool.false_eq_true, if_false, decide_eq_true_eq]
    constructor
    · intro h; exact (hr x h).1
    · rintro ⟨t, ht, e, h⟩
      have : ∀ {y z : Str}, RT ts y z → y ∈ row → z ∈ row := by
        intro y z h hy
        induction h with
        | refl => exact hy
        | @step t h ht ih =>
          obtain ⟨i, hi, e⟩ := List.mem_iff_getElem.mp ih
          exact hc i (by omega) t ht (by rw [List.getElem?_eq_getElem hi, e])
      exact this h (hs t ht e)
def sp_has_ring : PSp := fun ds R => ∃ w : Wk, ds = [enc w] ∧ w.Ok ∧ w.OnRings ∧ R (.bl true)
theorem l_has_ring : ∀ ds R, sp_has_ring ds R → ds.length = 1 := by rintro ds R ⟨w, rfl, _⟩; rfl
def w_has_ring : SW := (sSeq (sAsg 1 (wCall sp_ties_of (wCons (wV 0) wNil)))
    (sRet (wCB fAny (wCons (wFz (wLc (wItS (wCall sp_names_of (wCons (wV 0) wNil))) (.nm 2) wYes (wNw (wCall sp_on_ring (wCons (wV 1) (wCons (wV 2) wNil)))) [2])) wNil))))
theorem p_has_ring : ∀ ds R, sp_has_ring ds R → w_has_ring { nx := fun _ => R .non, rt := R } (startE 3 ds) := by
  rintro ds R ⟨w, rfl, hw, hr, q⟩
  have nl := hw.nlen
  have tl := hw.tie_len
  unfold w_has_ring
  walk_at "pw"
  refine ⟨w, rfl, hw, ?_⟩
  refine ⟨w, rfl, hw, ?_⟩
  walk_at "pw"
  refine ⟨by omega, ?_⟩
  refine compW_map D.str (fun x => .st (.bl true)) (fun x hx R hR => ?_) ?_
  · refine ⟨w.ties, w.names, x, rfl, by omega, nl, fun t ht => hw.tie ht, fun b hb => ?_⟩
    obtain ⟨t, h1, h2, h3⟩ := hr x hx
    have : b = true := hb.mpr ⟨t, h1, h2, h3⟩
    subst this
    exact hR
  · rw [erase_vl (f := fun _ : Str => D.bl true), show w.names.map (fun _ : Str => D.bl true) = (w.names.map fun _ => true).map D.bl by rw [List.map_map]; rfl, fAny_lst]
    have : (w.names.map fun _ => true).any id = true := by
      have := hw.npos
      obtain ⟨a, ha⟩ := List.exists_mem_of_length_pos this
      exact List.any_eq_true.mpr ⟨true, List.mem_map.mpr ⟨a, ha, rfl⟩, rfl⟩
    rw [this]
    exact ⟨_, rfl, q⟩
def sp_is_behind : PSp := fun ds R => ∃ (d : D) (xs : List Str), ds = [d, strT xs, .lst [strT xs]] ∧ (∀ x ∈ xs, okS x) ∧ R (.bl false)
theorem l_is_behind : ∀ ds R, sp_is_behind ds R → ds.length = 3 := by rintro ds R ⟨d, xs, rfl, _⟩; rfl
def w_is_behind : SW := (sRet (wCB fAny (wCons (wFz (wLc (wItS (wV 2)) (.nm 3) wYes (wNw (wAndV (wOp fNeA (wV 3) (wV 1)) (wOp (fInA false) (wOp fGet (wV 1) (wC (.int 0))) (wOp fGet (wV 0) (wOp fGet (wV 3) (wC (.int 0))))))) [3])) wNil)))
theorem good_strT {xs : List Str} (h : ∀ x ∈ xs, okS x) : Good 1 (strT xs) := good_tup fun d hd => by
  obtain ⟨x, hx, rfl⟩ := List.mem_map.mp hd
  exact good_str (h x hx)
theorem p_is_behind : ∀ ds R, sp_is_behind ds R → w_is_behind { nx := fun _ => R .non, rt := R } (startE 4 ds) := by
  rintro ds R ⟨d, xs, rfl, hx, q⟩
  unfold w_is_behind
  walk_at "pw"
  refine ⟨by simp, ?_⟩
  refine compW_map (α := Unit) (fun _ => strT xs) (fun _ => .st (.bl false)) (xs := [()]) (fun u _ R hR => ?_) ?_
  · unfold wAndV
    walk_at "pw"
    refine fNeA_same (good_strT hx) (by omega) ⟨_, rfl, ?_⟩
    rw [if_neg (by simp)]
    exact hR
  · rw [erase_vl (f := fun _ : Unit => D.bl false)]
    refine ⟨_, [false], rfl, dl_lst _, ?_⟩
    exact ⟨_, rfl, q⟩
theorem compD_any {α : Type} {f : D → (Option (Key × T) → Prop) → Prop} (e : α → D) (k : α → Key) (G : α → T → Prop) : ∀ {xs : List α} {es : List (Key × T)} {Q : List (Key × T) → Prop}, (∀ x ∈ xs, ∀ R : Option (Key × T) → Prop, (∀ t, G x t → R (some (k x, t))) → f (e x) R) → (xs.map k).Nodup → (∀ x ∈ xs, look es (k x) = none) →
    (∀ g : α → T, (∀ x ∈ xs, G x (g x)) → Q (es ++ xs.map fun x => (k x, g x))) → compD f (xs.map e) es Q
  | [], es, Q, _, _, _, q => by simpa [compD] using q (fun _ => .st .non) (fun x h => by cases h)
  | x :: xs, es, Q, h, nd, hn, q => by
    classical
    refine h x (.head _) _ fun t ht => .inl ⟨hn x (.head _), compD_any e k G (fun y m => h y (.tail _ m)) (List.nodup_cons.mp nd).2 (fun y m => ?_) fun g hg => ?_⟩
    · have h1 := hn y (.tail _ m)
      have h2 : k x ≠ k y := fun e => (List.nodup_cons.mp nd).1 (by rw [e]; exact List.mem_map_of_mem m)
      unfold look at h1 ⊢
      rw [List.find?_append]
      rw [Option.map_eq_none_iff] at h1
      simp [h1, h2]
    · have hx : ∀ y ∈ xs, y ≠ x := fun y m e => (List.nodup_cons.mp nd).1 (by rw [← e]; exact List.mem_map_of_mem m)
      have := q (fun y => if y = x then t else g y) (fun y m => by
        rcases List.mem_cons.mp m with rfl | m
        · simpa using ht
        · rw [if_neg (hx y m)]; exact hg y m)
      rw [List.map_cons, if_pos rfl, List.map_congr_left (g := fun y => (k y, g y)) (fun y m => by rw [if_neg (hx y m)])] at this
      rw [List.append_assoc]
      exact this
def sp_halls : PSp := fun ds R => ∃ w : Wk, ds = [enc w] ∧ w.Ok ∧ w.Closed ∧ w.names.length < 64 ∧ ∀ d, R (.tup [d])
theorem l_halls : ∀ ds R, sp_halls ds R → ds.length = 1 := by rintro ds R ⟨w, rfl, _⟩; rfl
def w_halls : SW := (sSeq (sAsg 1 (wCall sp_names_of (wCons (wV 0) wNil)))
    (sSeq (sAsg 2 (wFz (wDc (wItS (wV 1)) (.nm 4) wYes (wV 4) (wNw (wCall sp_reached_from (wCons (wV 0) (wCons (wV 4) wNil)))) [4])))
    (sSeq (sNew 3 (wLst wNil))
    (sSeq (sFor (wItS (wV 1)) (.nm 4) (sSeq (sAsg 6 (wCB fTuple (wCons (wCB fSortS (wCons (wFz (wLc (wItS (wOp fGet (wV 2) (wV 4))) (.nm 8) (wTest (wOp (fInA false) (wV 4) (wOp fGet (wV 2) (wV 8)))) (wNw (wV 8)) [8])) wNil)) wNil)))
    (sIf (wTest (wOp (fInD true) (wV 6) (wV 3))) (sApp 3 (wV 6)) sNext)))
    (sSeq (sNew 5 (wLst wNil))
    (sSeq (sWhile (wTru (wV 3)) (sSeq (sNewL 7 3 (wLc (wItS (wV 3)) (.nm 6) (wNot (wTest (wCall sp_is_behind (wCons (wV 2) (wCons (wV 6) (wCons (wV 3) wNil)))))) (wNw (wV 6)) [6]))
    (sSeq (sApp 5 (wCB fMin1 (wCons (wV 7) wNil)))
    (sRem1 3 (wCB fMin1 (wCons (wV 7) wNil))))))
    (sRet (wCB fTuple (wCons (wV 5) wNil)))))))))
theorem fInD_self {neg : Bool} {n : Nat} {d : D} {Q : T → Prop} (h : Good n d) (l : n ≤ 60) (q : Q (.st (.bl (!neg)))) : fInD neg (.st d) (.vl [.st d]) Q := by
  have g1 : Good (n + 1) (.lst [d]) := good_lst fun e he => by rw [List.mem_singleton.mp he]; exact h
  refine ⟨d, [d], rfl, dl_vl [d], h.1, by simp [arePy, h.1], h.shaped (by omega), ?_, ?_⟩
  · have := g1.shaped (by omega)
    exact this
  · have e : (pys [d]).any (fun z => PyData.eqv z d.py) = true := by
      unfold pys
      simp [SeqAt.eqv_refl _ h.2.1]
    rw [e]
    cases neg <;> exact q
theorem fInD_nil {neg : Bool} {n : Nat} {d : D} {Q : T → Prop} (h : Good n d) (l : n ≤ 60) (q : Q (.st (.bl neg))) : fInD neg (.st d) (.vl []) Q := by
  refine ⟨d, [], rfl, dl_vl [], h.1, by simp [arePy], h.shaped (by omega), by decide +kernel, ?_⟩
  cases neg <;> exact q
theorem p_halls : ∀ ds R, sp_halls ds R → w_halls { nx := fun _ => R .non, rt := R } (startE 9 ds) := by
  rintro ds R ⟨w, rfl, hw, hc, n64, q⟩
  have nl := hw.nlen
  unfold w_halls
  walk_at "pw"
  refine ⟨w, rfl, hw, ?_⟩
  walk_at "pw"
  refine ⟨by omega, ?_⟩
  refine compD_any D.str (fun x => (Sum.inr x : Key)) (fun x t => ∃ row : List Str, row.Perm w.names ∧ t = .st (.lst (row.map D.str))) (fun x hx R hR => ?_) ?_ (fun x _ => rfl) fun g hg => ?_
  · refine ⟨w, x, rfl, hw, hx, fun row nd hm => ?_⟩
    refine ⟨_, rfl, hR _ ⟨row, perm_of_nodup nd hw.nd fun y => ?_, rfl⟩⟩
    rw [hm y]
    exact ⟨fun h => h.mem (P := fun y => y ∈ w.names) hx fun t ht => (hw.tie ht).2, fun hy => hc x hx y hy⟩
  · exact List.Pairwise.map Sum.inr (fun a b hab e => hab (Sum.inr.inj e)) hw.nd
  rw [List.nil_append]
  obtain ⟨rwf, hrw⟩ : ∃ rwf : Str → List Str, ∀ x ∈ w.names, (rwf x).Perm w.names ∧ g x = .st (.lst ((rwf x).map D.str)) := by
    classical
    refine ⟨fun x => if h : x ∈ w.names then (hg x h).choose else [], fun x hx => ?_⟩
    simp only [dif_pos hx]
    exact (hg x hx).choose_spec
  have ee : (T.vk (w.names.map fun x => ((.inr x : Key), g x))).erase = .dk (eraseK (w.names.map fun x => ((.inr x : Key), g x))) := by simp [T.erase]
  rw [ee]
  have lk : ∀ x ∈ w.names, look (eraseK (w.names.map fun x => ((.inr x : Key), g x))) (.inr x) = some (.lst ((rwf x).map D.str)) := fun x hx => by
    rw [look_eraseK, look_tab hx, (hrw x hx).2]; simp
  generalize eraseK (w.names.map fun x => ((.inr x : Key), g x)) = es at lk
  refine ⟨by omega, ?_⟩
  have go : ∀ (hall : List Str), hall.Perm w.names → sortedS hall = true → ∀ ys : List Str, ys.Perm w.names → sortedS ys = true → ys = hall := fun hall h1 h2 ys h3 h4 => sortedS_eq h4 h2 (h3.trans h1.symm)
  refine forW_inv D.str (fun pre env => ∃ (left : List (List Str)) (j4 j6 : Option T), env = [some (.st (enc w)), some (.st (.lst (w.names.map D.str))), some (.st (.dk es)), some (.vl (left.map fun h => .st (strT h))), j4, none, j6, none, none] ∧ ((pre = [] ∧ left = []) ∨ ∃ hall : List Str, hall.Perm w.names ∧ sortedS hall = true ∧ left = [hall])) ⟨[], _, _, rfl, .inl ⟨rfl, rfl⟩⟩ ?_ ?_
  · rintro pre x post env N e ⟨left, j4, j6, rfl, hl⟩ hN
    have hx : x ∈ w.names := by rw [e]; simp
    have hrl := (hrw x hx).1.length_eq
    refine ⟨_, setT_nm _ _ _, ?_⟩
    walk_at "pw"
    refine ⟨_, lk x hx, _, rfl, by rw [List.length_map]; omega, ?_⟩
    refine compW_filt D.str (fun _ => true) (fun y => .st (.str y)) (fun y hy R hR => ?_) ?_
    · have hy' := (hrw x hx).1.mem_iff.mp hy
      refine ⟨_, rfl, _, lk y hy', ?_⟩
      rw [fIn_strs]
      have : x ∈ rwf y := (hrw y hy').1.mem_iff.mpr hx
      simp only [this, decide_true, Bool.false_eq_true, if_false]
      refine ⟨_, rfl, ?_⟩
      rw [if_pos rfl]
      exact hR
    · have e1 : ((rwf x).filter fun _ => true) = rwf x := List.filter_eq_self.mpr fun _ _ => rfl
      rw [e1, erase_strs]
      refine ⟨_, rwf x, rfl, dl_lst _, by omega, fun ys hp hs => ?_⟩
      have hys := hp.trans (hrw x hx).1
      show fTuple [T.st (.lst (ys.map D.str))] _
      rw [fTuple_lst]
      refine ⟨_, rfl, ?_⟩
      have gy := good_strT (xs := ys) fun z hz => hw.oks z (hys.mem_iff.mp hz)
      rcases hl with ⟨rfl, rfl⟩ | ⟨hall, h1, h2, rfl⟩
      · refine fInD_nil gy (by omega) ⟨_, rfl, ?_⟩
        rw [if_pos rfl]
        refine ⟨by simp, hN _ ⟨[ys], _, _, rfl, .inr ⟨ys, hys, hs, rfl⟩⟩⟩
      · have := go hall h1 h2 ys hys hs
        subst this
        refine fInD_self gy (by omega) ⟨_, rfl, ?_⟩
        rw [if_neg (by simp)]
        exact hN _ ⟨[ys], _, _, rfl, .inr ⟨ys, hys, hs, rfl⟩⟩
  · rintro env ⟨left, j4, j6, rfl, hl⟩
    obtain ⟨hall, h1, h2, rfl⟩ : ∃ hall : List Str, hall.Perm w.names ∧ sortedS hall = true ∧ left = [hall] := by
      rcases hl with ⟨e, _⟩ | h
      · have := hw.npos; rw [e] at this; simp at this
      · exact h
    have gh := good_strT (xs := hall) fun z hz => hw.oks z (h1.mem_iff.mp hz)
    walk_at "pw"
    refine ⟨by omega, ?_⟩
    refine while_inv (fun env => ∃ (j4 j6 : Option T), env = [some (.st (enc w)), some (.st (.lst (w.names.map D.str))), some (.st (.dk es)), some (.vl [.st (strT hall)]), j4, some (.vl []), j6, none, none] ∨ ∃ j7, env = [some (.st (enc w)), some (.st (.lst (w.names.map D.str))), some (.st (.dk es)), some (.vl []), j4, some (.vl [.st (strT hall)]), j6, j7, none]) (szOf 3) ⟨_, _, .inl rfl⟩ ?_
    rintro env N ⟨j4, j6, h⟩ hN
    rcases h with rfl | ⟨j7, rfl⟩
    · walk_at "pw"
      refine ⟨_, rfl, ?_⟩
      rw [if_pos (by simp)]
      unfold sNewL
      refine ⟨[hall.map D.str], rfl, ?_⟩
      walk_at "pw"
      refine ⟨by simp, ?_⟩
      refine compW_map (α := Unit) (fun _ => strT hall) (fun _ => .st (strT hall)) (xs := [()]) (fun u _ R hR => ?_) ?_
      · refine ⟨_, hall, rfl, fun z hz => hw.oks z (h1.mem_iff.mp hz), ?_⟩
        refine ⟨_, rfl, ?_⟩
        rw [if_pos (by simp)]
        exact hR
      · refine ⟨[strT hall], rfl, ?_, ?_⟩
        · intro d hd
          rw [List.mem_singleton.mp hd]
          exact ⟨_, rfl, fun e he => by obtain ⟨x, _, rfl⟩ := List.mem_map.mp he; trivial⟩
        · walk_at "pw"
          refine ⟨by simp, _, hall, rfl, dl_vl [strT hall], _, rfl, ?_⟩
          unfold sRem1
          refine ⟨hall, rfl, ?_⟩
          walk_at "pw"
          refine ⟨_, hall, rfl, dl_vl [strT hall], rfl, ?_⟩
          exact hN _ ⟨_, _, .inr ⟨_, rfl⟩⟩ (by show 0 < 1; omega)
    · walk_at "pw"
      refine ⟨_, rfl, ?_⟩
      rw [if_neg (by simp)]
      have e : (T.vl [T.st (strT hall)]) = T.vl ([strT hall].map T.st) := rfl
      rw [e, fTuple_vl]
      exact ⟨_, rfl, q _⟩
def sp_is_closed : PSp := fun ds R => ∃ w : Wk, ds = [enc w] ∧ w.Ok ∧ w.Closed ∧ w.names.length < 64 ∧ R (.bl true)
theorem l_is_closed : ∀ ds R, sp_is_closed ds R → ds.length = 1 := by rintro ds R ⟨w, rfl, _⟩; rfl
def w_is_closed : SW := (sRet (wOp fEqA (wCB fLen (wCons (wCall sp_halls (wCons (wV 0) wNil)) wNil)) (wC (.int 1))))
theorem p_is_closed : ∀ ds R, sp_is_closed ds R → w_is_closed { nx := fun _ => R .non, rt := R } (startE 1 ds) := by
  rintro ds R ⟨w, rfl, hw, hc, n64, q⟩
  unfold w_is_closed
  walk_at "pw"
  refine ⟨w, rfl, hw, hc, n64, fun d => ?_⟩
  walk_at "pw"
  exact q
def sp_check_closed : PSp := fun ds R => ∃ w : Wk, ds = [enc w] ∧ w.Ok ∧ w.Endless ∧ w.Closed ∧ w.OnRings ∧ w.names.length < 64 ∧ R .non
theorem l_check_closed : ∀ ds R, sp_check_closed ds R → ds.length = 1 := by rintro ds R ⟨w, rfl, _⟩; rfl
def w_check_closed : SW := (sSeq (sDrop (wCall sp_check_endless (wCons (wV 0) wNil)))
    (sIf (wOr (wNot (wTest (wCall sp_is_closed (wCons (wV 0) wNil)))) (wNot (wTest (wCall sp_has_ring (wCons (wV 0) wNil))))) sNever sNext))
theorem p_check_closed : ∀ ds R, sp_check_closed ds R → w_check_closed { nx := fun _ => R .non, rt := R } (startE 1 ds) := by
  rintro ds R ⟨w, rfl, hw, he, hc, hr, n64, q⟩
  unfold w_check_closed
  walk_at "pw"
  refine ⟨w, rfl, hw, he, ?_⟩
  refine ⟨w, rfl, hw, hc, n64, ?_⟩
  refine ⟨_, rfl, ?_⟩
  simp only [Bool.not_true, Bool.false_eq_true, if_false]
  refine ⟨w, rfl, hw, hr, ?_⟩
  refine ⟨_, rfl, ?_⟩
  simp only [Bool.not_true, Bool.false_eq_true, if_false]
  exact q
def sp_check_counts : PSp := fun ds R => ∃ w : Wk, ds = [enc w] ∧ w.Ok ∧ w.ties ≠ [] ∧ (∀ t ∈ w.ties, t.count ≤ 200) ∧ R .non
theorem l_check_counts : ∀ ds R, sp_check_counts ds R → ds.length = 1 := by rintro ds R ⟨w, rfl, _⟩; rfl
def w_check_counts : SW := (sIf (wTest (wOp fGt (wCB fMax (wCons (wFz (wLc (wItS (wCall sp_ties_of (wCons (wV 0) wNil))) (.nm 1) wYes (wNw (wOp fGet (wV 1) (wC (.int 3)))) [1])) wNil)) (wC (.int 200)))) sNever sNext)
theorem p_check_counts : ∀ ds R, sp_check_counts ds R → w_check_counts { nx := fun _ => R .non, rt := R } (startE 2 ds) := by
  rintro ds R ⟨w, rfl, hw, hn, hc, q⟩
  have tl := hw.tie_len
  unfold w_check_counts
  walk_at "pw"
  refine ⟨w, rfl, hw, ?_⟩
  walk_at "pw"
  refine ⟨by omega, ?_⟩
  refine compW_map encT (fun t => .st (.int t.count)) (fun t ht R hR => ?_) ?_
  · rw [encT_eq]
    walk_at "pw"
    exact hR
  · rw [erase_vl (f := fun t : Ti => D.int t.count), show w.ties.map (fun t : Ti => D.int t.count) = (w.ties.map fun t => t.count).map D.int by rw [List.map_map]; rfl]
    have ne : w.ties.map (fun t => t.count) ≠ [] := by simpa using hn
    refine fMax_lst ne ?_
    have hm : maxL (w.ties.map fun t => t.count) ≤ 200 := by
      obtain ⟨t, ht, e⟩ := List.mem_map.mp (maxL_mem ne)
      rw [← e]; exact hc t ht
    refine ⟨_, _, rfl, rfl, trivial, _, rfl, ?_⟩
    rw [if_neg (by simpa using hm)]
    exact q
end Pw
namespace Pw
open PySem PySem.Spec PyProof.Rows L2
/-! ### {k: v} with one pair, whose key is a tuple -/
def tDispT (tk tv : TE) : TE := fun σ H Q => ∀ p, H p = none → tk σ (upd H p (.dT [])) fun x H1 => tv σ H1 fun y H2 => H2 p = some (.dT []) ∧ ∃ (k : List Key) (c : Addr), x = .ref c ∧ H2 c = some (.tup (k.map kV)) ∧ Q (.ref p) (upd H2 p (.dT [(k, y)]))
theorem pe_dispT {X : Cx} {pos : Pos} {k v : Expr} {tk tv : TE} (hu : X.A.units + 64 < cLine) (hk : PE X k tk) (hv : PE X v tv) : PE X (.Dict [some k] [v] pos) (tDispT tk tv) := by
  refine ⟨fun pins s σ H Q I q => ?_⟩
  have hn := I.hok.fresh (Nat.le_refl s.heap.objs.size)
  have I1 := I.laid (a := s.heap.objs.size) (o := .dT []) (h' := s.heap.push { cls := .type "dict", data := .dict #[] }) (t' := s.toks) (fun _ _ q => Heap.get?_push_of_some _ q) (Nat.le_refl _) (dt_empty s.heap I.big)
  have room : (tupleKind (mixKind X.prog X.w)).room X.A := by
    show X.A.units < cLine
    omega
  rw [arm_eval_Dict, zip_pairTrees [some k] [v] X.env pos rfl rfl, dictDisplay_pairs (pairTrees [some k] [v] X.env pos) (by simp [pairTrees]) (by simp [pairTrees])]
  refine wpAny_bind (wpAny_standAt (wpAny_bind (wpAny_subDictH (knd := tupleKind (mixKind X.prog X.w)) (Q := fun d s' => wpAny (model X.prog X.w) X.A (pure (Value.ref d)) (EP X pins σ Q) X.xe s') room (by simp [pairTrees]) ?_)))
  refine pairTrees_cons_walk (thn (hk.run pins _ σ _ _ I1 (q _ hn)) fun u s1 ⟨x, H1, I2, rx, q1⟩ => thn (hv.run pins s1 σ H1 _ I2 q1) fun w2 s2 ⟨y, H2, I3, ry, e, kk, c, ex, hc, q2⟩ => pairTrees_nil_walk ?_)
  subst ex
  obtain rfl : u = Value.ref c := rx
  obtain ⟨z1, z2, xs, rel, dd⟩ := dt_of I3.hok e
  cases rel
  refine ⟨[(kk, c, w2)], ⟨rfl, rfl, key_of I3.hok hc, trivial⟩, dd, fun h' tk' dd' hs => wpAny_pure ?_⟩
  obtain ⟨o, es, ep, o1, o2, o3, o4, o5, o6⟩ := dd'
  refine ⟨.ref s.heap.objs.size, _, ?_, rfl, q2⟩
  refine d_write I3 (by rw [e]; trivial) hs ⟨o, o1⟩ ⟨by simp [sizeLine_eq], z2, [(kk, c, w2)], .cons ⟨rfl, ?_, ry⟩ .nil, o, es, ep, o1, o2, o3, o4, o6⟩
  rw [upd_ne (ne_of hc e fun z => nomatch z)]
  exact hc
section
variable {K : PySem.W.Frag} {b : Option Addr} {F H F0 H0 : Hp} {tk tv : TE} {wk wv : EW}
def wDispT (wk wv : EW) : EW := fun env Q => wk env fun x => wv env fun y => ∃ kd key d, x = .st kd ∧ kM kd = some key ∧ y = .st d ∧ Q (.vt [(key, .st d)])
theorem so_dispT (h1 : SoE K tk wk) (h2 : SoE K tv wv) : SoN K (tDispT tk tv) (wDispT wk wv) := fun b F0 H0 F H σ env O Q' h Q q => by
  intro p hp
  have S0 : Stp K b F H F (upd H p (.dT [])) := .skip O.fit hp
  have nb : b ≠ some p := fun e => by
    obtain ⟨_, _, _, _, z, _⟩ := O.bx p e
    rw [hp] at z; cases z
  refine h1 _ _ _ _ _ _ _ (O.step S0) _ h _ fun x tx F1 H1 S1 g1 h3 => h2 _ _ _ _ _ _ _ ((O.step S0).step S1) _ h3 _ fun y ty F2 H2 S2 g2 ⟨kd, key, d, e1, e2, e3, h4⟩ => ?_
  subst e1 e3
  have e4 : H2 p = some (.dT []) := (S1.trans S2).hh _ _ upd_same nb
  have n4 : F2 p = none := by rw [(S1.trans S2).fk p _ upd_same]; exact O.same.free hp
  obtain ⟨c, rfl, hc⟩ := kM_rep (g1.step S2).inv_st (((O.step S0).step S1).step S2).same e2
  refine ⟨e4, key, c, rfl, hc, ?_⟩
  have SS := ((S0.trans S1).trans S2).mutNew (p := p) (o := .dT [(key, y)]) hp n4 O.fit
  refine q _ _ [p] F2 _ SS (.vt (kvs := [(key, y)]) (es := [(key, T.st d)]) (f := []) n4 upd_same rfl ?_) (by simp) (fun a m => by rw [List.mem_singleton.mp m]; exact hp) h4
  exact .cons (f := []) (g := []) (.st g2.inv_st) .nil
theorem n_dispT {X : Cx} {pos : Pos} {k v : Expr} (hu : X.A.units + 64 < cLine) (hk : PEw K X k tk wk) (hv : PEw K X v tv wv) : PNw K X (.Dict [some k] [v] pos) (tDispT tk tv) (wDispT wk wv) := ⟨pe_dispT hu hk.pe hv.pe, so_dispT hk.so hv.so⟩
end
end Pw
namespace Pw
open PySem PySem.Spec PyProof.Rows L2
local macro_rules | `(tactic| walk_at "pw") => `(tactic| simp only [wV, wC, wOp, wUn, wTest, wAnd, wOr, wNot, wTru, wIf, wNil, wCons, wTup, wLst, wFz, wNw, wDk, wDt, wCB, wM, wM1, wCall, wGet2, wSl, wSo, wNo, wRev, wItS, wRg1, wRg2, wRg3, wEnum, wLc, wDc, wDisp, wPairs, wYes, sNext, sSeq, sAsg, sNew, sAsgT, sFrz, sDrop, sRet, sRetV, sRetN, sIf, sFor, sAugI, sApp, sSet, sSet2, sApp2, sDAug, sAppPop, sSdApp, sExt, sNever, setT_nm, setT_tp, setTs_nil, setTs_cons, T.it?, T.il?, plainL, startE, wipeE, List.map_cons, List.map_nil, List.length_cons, List.length_nil, List.replicate_succ, List.replicate_zero, List.cons_append, List.nil_append, List.append_nil, List.getElem?_cons_zero, List.getElem?_cons_succ, List.set_cons_zero, List.set_cons_succ, Option.some.injEq, T.st.injEq, T.vl.injEq, T.vk.injEq, D.tup.injEq, D.lst.injEq, D.int.injEq, D.str.injEq, D.bl.injEq, List.cons.injEq, exists_eq', exists_eq, Int.toNat_natCast, rng_eq, List.length_map, List.length_range, exists_eq_left', exists_eq_left, exists_and_left, and_true, true_and, Option.bind_some, Option.map_some, fGet_tup, fGet_lst, fGet_vl, fGet_str, fGet_dk, fGet_vk, fII_st, fAdd_int, fAdd_str, fAdd_lst, fAdd_lv, fEqA_int, fEqA_str, fNotN_non, fNotN_int, fIsN_non, fIsN_int, fLen_lst, fLen_tup, fLen_vl, fLen_str, dl_strN, dl_lst, reduceCtorEq, false_and, and_false, exists_false, false_or, or_false, fInt_int, fInt_bl, fTuple_lst, fTuple_vl, fTuple_tup, fList_tup, fList_lst, fMax_2, fMax_3, fMin_2, atI_0, atI_1, atI_2, atI_3, atI_4, erase_st, decide_eq_true_eq, Bool.false_eq_true, if_true, if_false, take_iff, isD_vk, isD_dk, gV, gD, pV, posV, sz_vk, sz_vl, kK_str, ch_vk, ch_vl, setCh_vk, setCh_vl, atI_tab, Option.getD_some, Option.getD_none, posL, putL_vl, gDt, ite_true, ite_false, wSortSc])
def tieD (t : Ti) : D := .tup [.str t.word, .str t.bin]
/-- the ties that make m start its round k so late -/
noncomputable def Wk.wt (w : Wk) (m : Str) (k : Nat) (t : Ti) : Bool := decide (t.goal = m) && (decide (t.count ≤ (k : Int)) && decide (w.st t.start (k - t.count.toNat) + w.time t.start = w.st m k))
theorem Wk.wt_iff {w : Wk} {m : Str} {k : Nat} {t : Ti} : w.wt m k t = true ↔ t.goal = m ∧ t.count ≤ (k : Int) ∧ w.st t.start (k - t.count.toNat) + w.time t.start = w.st m k := by
  unfold Wk.wt
  simp
def waitD (t : Ti) : D := .tup [tieD t, .str t.start, .int t.count]
def sp_waited_ties : PSp := fun ds R => ∃ (w : Wk) (m : Str) (k n : Nat), ds = [enc w, .lst (w.names.map D.str), encTimes w, tabD w.names n w.st, .str m, .int k] ∧ w.Ok ∧ m ∈ w.names ∧ k < n ∧ R (.lst ((w.ties.filter (w.wt m k)).map waitD))
theorem l_waited_ties : ∀ ds R, sp_waited_ties ds R → ds.length = 6 := by rintro ds R ⟨w, m, k, n, rfl, _⟩; rfl
def w_waited_ties : SW := (sSeq (sAsg 6 (wOp fGet (wOp fGet (wV 3) (wM fIndex (wV 1) (wCons (wV 4) wNil))) (wV 5)))
    (sSeq (sNew 7 (wLst wNil))
    (sSeq (sFor (wItS (wCall sp_ties_of (wCons (wV 0) wNil))) (.tp ((.nm 8) :: ((.nm 9) :: ((.nm 10) :: ((.nm 11) :: []))))) (sIf (wAnd (wTest (wOp fEqA (wV 10) (wV 4))) (wAnd (wTest (wOp fLe (wV 11) (wV 5))) (wTest (wOp fEqA (wOp fAdd (wOp fGet (wOp fGet (wV 3) (wM fIndex (wV 1) (wCons (wV 9) wNil))) (wOp fSub (wV 5) (wV 11))) (wOp fGet (wV 2) (wV 9))) (wV 6))))) (sApp 7 (wTup (wCons (wV 8) (wCons (wV 9) (wCons (wV 11) wNil))))) sNext))
    (sFrz 7 (sRet (wV 7))))))
theorem p_waited_ties : ∀ ds R, sp_waited_ties ds R → w_waited_ties { nx := fun _ => R .non, rt := R } (startE 12 ds) := by
  rintro ds R ⟨w, m, k, n, rfl, hw, hm, hk, q⟩
  have tl := hw.tie_len
  unfold w_waited_ties
  walk_at "pw"
  refine ⟨⟨_, rfl⟩, fIndex_strs hm (fGet_tabD hm (fGet_rowD rfl hk ⟨_, rfl, ?_⟩))⟩
  refine ⟨by omega, w, rfl, hw, ?_⟩
  walk_at "pw"
  refine forW_inv encT (fun pre env => ∃ (j8 j9 j10 j11 : Option T), env = [some (.st (enc w)), some (.st (.lst (w.names.map D.str))), some (.st (encTimes w)), some (.st (tabD w.names n w.st)), some (.st (.str m)), some (.st (.int k)), some (.st (.int (w.st m k))), some (.vl ((pre.filter (w.wt m k)).map fun t => .st (waitD t))), j8, j9, j10, j11]) ⟨_, _, _, _, rfl⟩ ?_ ?_
  · rintro pre t post env N e ⟨j8, j9, j10, j11, rfl⟩ hN
    have ht : t ∈ w.ties := by rw [e]; simp
    have h0 := hw.cnt t ht
    have hs := (hw.tie ht).1
    have hpl : (pre.filter (w.wt m k)).length ≤ 200 := by
      have h1 := congrArg List.length e
      have h2 := List.length_filter_le (w.wt m k) pre
      simp at h1; omega
    have no : w.wt m k t = false → ∀ j8 j9 j10 j11, N [some (.st (enc w)), some (.st (.lst (w.names.map D.str))), some (.st (encTimes w)), some (.st (tabD w.names n w.st)), some (.st (.str m)), some (.st (.int k)), some (.st (.int (w.st m k))), some (.vl ((pre.filter (w.wt m k)).map fun t => .st (waitD t))), j8, j9, j10, j11] := by
      intro hf j8 j9 j10 j11
      exact hN _ ⟨_, _, _, _, by rw [List.filter_append, List.filter_cons_of_neg (by simp [hf]), List.filter_nil, List.append_nil]⟩
    rw [encT_eq]
    walk_at "pw"
    by_cases hg : t.goal = m
    · rw [if_pos hg]
      by_cases hc : t.count ≤ (k : Int)
      · rw [if_pos hc]
        refine ⟨⟨_, rfl⟩, fIndex_strs hs (fGet_tabD hs (fGet_rowD (j := k - t.count.toNat) (by omega) (by omega) ?_))⟩
        unfold encTimes at no hN ⊢
        walk_at "pw"
        refine ⟨_, look_times hw hs, ?_⟩
        walk_at "pw"
        by_cases he : w.st t.start (k - t.count.toNat) + w.time t.start = w.st m k
        · rw [if_pos he]
          have hy : w.wt m k t = true := Wk.wt_iff.mpr ⟨hg, hc, he⟩
          have e2 : (pre ++ [t]).filter (w.wt m k) = pre.filter (w.wt m k) ++ [t] := by rw [List.filter_append, List.filter_cons_of_pos hy, List.filter_nil]
          rw [e2, List.map_append] at hN
          exact ⟨by omega, by simp, hN _ ⟨_, _, _, _, rfl⟩⟩
        · rw [if_neg he]
          exact no (by rw [Bool.eq_false_iff]; exact fun h => he (Wk.wt_iff.mp h).2.2) _ _ _ _
      · rw [if_neg hc]
        exact no (by rw [Bool.eq_false_iff]; exact fun h => hc (Wk.wt_iff.mp h).2.1) _ _ _ _
    · rw [if_neg hg]
      exact no (by rw [Bool.eq_false_iff]; exact fun h => hg (Wk.wt_iff.mp h).1) _ _ _ _
  · rintro env ⟨j8, j9, j10, j11, rfl⟩
    walk_at "pw"
    rw [erase_vl (f := waitD)]
    exact q
/-- ties that a start waits for, one after the other -/
inductive Chain (w : Wk) : Str → Nat → List Ti → Str → Nat → Prop
  | nil (x : Str) (k : Nat) : Chain w x k [] x k
  | cons {t : Ti} {p : List Ti} {y : Str} {j k : Nat} : t ∈ w.ties → w.st t.goal (j + t.count.toNat) = w.st t.start j + w.time t.start → Chain w t.goal (j + t.count.toNat) p y k → Chain w t.start j (t :: p) y k
theorem Chain.cons' {w : Wk} {t : Ti} {p : List Ti} {x y : Str} {j j' k : Nat} (ht : t ∈ w.ties) (e : w.st t.goal j' = w.st t.start j + w.time t.start) (h : Chain w t.goal j' p y k) (e1 : j' = j + t.count.toNat) (e2 : x = t.start) : Chain w x j (t :: p) y k := by
  subst e1 e2
  exact .cons ht e h
theorem Wk.wait_some {w : Wk} (h : w.Ok) (he : w.Endless) {m : Str} (hm : m ∈ w.names) {k : Nat} (hp : 0 < w.st m k) : ∃ t, t ∈ w.ties ∧ w.wt m k t = true := by
  have e := Wk.st_rec h he hm k
  have hmem := maxL_mem (ns := 0 :: w.preds w.st m k) (by simp)
  rw [← e] at hmem
  rcases List.mem_cons.mp hmem with h0 | h0
  · omega
  · unfold Wk.preds at h0
    obtain ⟨t, h1, h2⟩ := List.mem_map.mp h0
    obtain ⟨h3, h4⟩ := List.mem_filter.mp h1
    obtain ⟨h5, h6⟩ := Wk.ins_mem.mp h3
    exact ⟨t, h5, Wk.wt_iff.mpr ⟨h6, by simpa using h4, h2⟩⟩
def sp_cause_of : PSp := fun ds R => ∃ (w : Wk) (m : Str) (k : Nat), ds = [enc w, .str m, .int k] ∧ w.Ok ∧ w.Endless ∧ m ∈ w.names ∧ k ≤ 900 ∧ ∀ (x : Str) (j : Nat) (p : List Ti), x ∈ w.names → Chain w x j p m k → j ≤ k → w.st x j = 0 → p.length ≤ 100000 → R (.tup [.str x, .int j, .tup (p.map tieD)])
theorem l_cause_of : ∀ ds R, sp_cause_of ds R → ds.length = 3 := by rintro ds R ⟨w, m, k, rfl, _⟩; rfl
def w_cause_of : SW := (sSeq (sDrop (wCall sp_check_endless (wCons (wV 0) wNil)))
    (sSeq (sAsg 3 (wCall sp_names_of (wCons (wV 0) wNil)))
    (sSeq (sAsg 4 (wCall sp_times_of (wCons (wV 0) wNil)))
    (sSeq (sAsg 5 (wCall sp_rounds (wCons (wV 0) (wCons (wOp fAdd (wV 2) (wC (.int 1))) (wCons (wFz wDt) wNil)))))
    (sSeq (sNew 6 (wLst wNil))
    (sSeq (sAsg 7 (wV 1))
    (sSeq (sWhile (wTest (wOp fGt (wOp fGet (wOp fGet (wV 5) (wM fIndex (wV 3) (wCons (wV 7) wNil))) (wV 2)) (wC (.int 0)))) (sSeq (sAsgT (.tp ((.nm 8) :: ((.nm 9) :: ((.nm 10) :: [])))) (wOp fGet (wCall sp_waited_ties (wCons (wV 0) (wCons (wV 3) (wCons (wV 4) (wCons (wV 5) (wCons (wV 7) (wCons (wV 2) wNil))))))) (wC (.int 0))))
    (sSeq (sApp 6 (wV 8))
    (sSeq (sAsg 7 (wV 9))
    (sAugI 2 (fun i j => i - j) (wV 10))))))
    (sRet (wTup (wCons (wV 7) (wCons (wV 2) (wCons (wCB fTuple (wCons (wRev (wV 6)) wNil)) wNil))))))))))))
def muE (ord : List Str) (i j : Nat) (env : Env) : Nat := match env[i]?, env[j]? with
  | some (some (T.st (D.str x))), some (some (T.st (D.int k))) => Wk.mu ord x k.toNat
  | _, _ => 0
theorem p_cause_of : ∀ ds R, sp_cause_of ds R → w_cause_of { nx := fun _ => R .non, rt := R } (startE 11 ds) := by
  rintro ds R ⟨w, m, k, rfl, hw, he, hm, hk, q⟩
  unfold w_cause_of
  walk_at "pw"
  refine ⟨w, rfl, hw, he, w, rfl, hw, ?_⟩
  refine ⟨w, rfl, hw, ?_⟩
  refine ⟨w, k + 1, [], by simp [T.erase, eraseM], hw, he, by omega, ?_⟩
  rw [show w.sol (w.combL fun p k => (look ([] : List (List Key × Int)) [.inl (p : Int), .inl (k : Int)]).getD 0) = w.st from rfl]
  refine ⟨by omega, ?_⟩
  obtain ⟨ord, ho, top⟩ := id he
  have munat : ∀ (x : Str) (j : Nat), Wk.mu ord x j < 100000 * 10000 → True := fun _ _ _ => trivial
  refine while_inv (fun env => ∃ (x : Str) (j : Nat) (p : List Ti) (j8 j9 j10 : Option T), env = [some (.st (enc w)), some (.st (.str m)), some (.st (.int j)), some (.st (.lst (w.names.map D.str))), some (.st (encTimes w)), some (.st (tabD w.names (k + 1) w.st)), some (.vl (p.reverse.map fun t => .st (tieD t))), some (.st (.str x)), j8, j9, j10] ∧
    x ∈ w.names ∧ j ≤ k ∧ Chain w x j p m k ∧ p.length + Wk.mu ord x j ≤ Wk.mu ord m k) (muE ord 7 2) ⟨m, k, [], _, _, _, rfl, hm, Nat.le_refl _, .nil _ _, by simp⟩ ?_
  rintro env N ⟨x, j, p, j8, j9, j10, rfl, hx, hj, hc, hl⟩ hN
  have hbig : Wk.mu ord m k ≤ 92000 := by
    unfold Wk.mu
    have h1 := ho.length_eq
    have h2 := hw.nlen
    have h3 := ixOf_lt (ho.mem_iff.mpr hm)
    have h4 : k * (ord.length + 1) ≤ 900 * 101 := Nat.mul_le_mul (by omega) (by omega)
    omega
  walk_at "pw"
  refine ⟨⟨_, rfl⟩, fIndex_strs hx (fGet_tabD hx (fGet_rowD rfl (by omega) ?_))⟩
  walk_at "pw"
  by_cases hp : 0 < w.st x j
  · rw [if_pos hp]
    refine ⟨w, x, j, k + 1, rfl, hw, hx, by omega, ?_⟩
    obtain ⟨t0, h1, h2⟩ := Wk.wait_some hw he hx hp
    obtain ⟨t, r, et⟩ : ∃ t r, w.ties.filter (w.wt x j) = t :: r := by
      cases e : w.ties.filter (w.wt x j) with
      | nil => exact absurd (List.mem_filter.mpr ⟨h1, h2⟩) (by rw [e]; simp)
      | cons t r => exact ⟨t, r, rfl⟩
    have htf : t ∈ w.ties.filter (w.wt x j) := by rw [et]; exact .head _
    obtain ⟨ht, hwt⟩ := List.mem_filter.mp htf
    obtain ⟨g1, g2, g3⟩ := Wk.wt_iff.mp hwt
    rw [et]
    have h0 := hw.cnt t ht
    have hlt : Wk.mu ord t.start (j - t.count.toNat) < Wk.mu ord x j := Wk.mu_lt hw ho top (Wk.ins_mem.mpr ⟨ht, g1⟩) g2
    unfold waitD
    walk_at "pw"
    have ej : (j : Int) - t.count = ((j - t.count.toNat : Nat) : Int) := by omega
    rw [ej]
    have er : (p.reverse.map fun t => T.st (tieD t)) ++ [.st (tieD t)] = (t :: p).reverse.map fun t => T.st (tieD t) := by rw [List.reverse_cons, List.map_append]; rfl
    rw [er]
    refine ⟨by simp; omega, hN _ ⟨t.start, j - t.count.toNat, t :: p, _, _, _, rfl, (hw.tie ht).1, by omega, ?_, ?_⟩ hlt⟩
    · subst g1
      exact .cons' ht g3.symm hc (by omega) rfl
    · rw [List.length_cons]; omega
  · rw [if_neg hp]
    have h0 := Wk.st_nonneg hw he hx j
    have e : (p.reverse.map fun t => T.st (tieD t)) = (p.reverse.map tieD).map T.st := by rw [List.map_map]; rfl
    refine ⟨p.reverse.map tieD, by rw [e, dl_vl], by simp, ?_⟩
    rw [← List.map_reverse, List.reverse_reverse]
    exact q x j p hx hc hj (by omega) (by omega)
theorem sol_nil {w : Wk} : w.sol (w.combL fun p k => (look ([] : List (List Key × Int)) [.inl (p : Int), .inl (k : Int)]).getD 0) = w.st := rfl
def sp_ties_waited : PSp := fun ds R => ∃ (w : Wk) (m : Str) (k : Nat), ds = [enc w, .str m, .int k] ∧ w.Ok ∧ w.Endless ∧ m ∈ w.names ∧ k ≤ 9000 ∧ R (.tup ((w.ties.filter (w.wt m k)).map tieD))
theorem l_ties_waited : ∀ ds R, sp_ties_waited ds R → ds.length = 3 := by rintro ds R ⟨w, m, k, rfl, _⟩; rfl
def w_ties_waited : SW := (sSeq (sDrop (wCall sp_check_endless (wCons (wV 0) wNil)))
    (sSeq (sAsg 3 (wCall sp_rounds (wCons (wV 0) (wCons (wOp fAdd (wV 2) (wC (.int 1))) (wCons (wFz wDt) wNil)))))
    (sSeq (sAsg 4 (wCall sp_waited_ties (wCons (wV 0) (wCons (wCall sp_names_of (wCons (wV 0) wNil)) (wCons (wCall sp_times_of (wCons (wV 0) wNil)) (wCons (wV 3) (wCons (wV 1) (wCons (wV 2) wNil))))))))
    (sRet (wCB fTuple (wCons (wFz (wLc (wItS (wV 4)) (.tp ((.nm 5) :: ((.nm 6) :: ((.nm 7) :: [])))) wYes (wNw (wV 5)) [5, 6, 7])) wNil))))))
theorem p_ties_waited : ∀ ds R, sp_ties_waited ds R → w_ties_waited { nx := fun _ => R .non, rt := R } (startE 8 ds) := by
  rintro ds R ⟨w, m, k, rfl, hw, he, hm, hk, q⟩
  have tl := hw.tie_len
  unfold w_ties_waited
  walk_at "pw"
  refine ⟨w, rfl, hw, he, w, k + 1, [], by simp [T.erase, eraseM], hw, he, by omega, ?_⟩
  rw [sol_nil]
  refine ⟨w, rfl, hw, ?_⟩
  refine ⟨w, rfl, hw, ?_⟩
  refine ⟨w, m, k, k + 1, rfl, hw, hm, by omega, ?_⟩
  walk_at "pw"
  have hl := List.length_filter_le (w.wt m k) w.ties
  refine ⟨by omega, compW_map waitD (fun t => .st (tieD t)) (fun t _ R hR => ?_) ?_⟩
  · unfold waitD
    walk_at "pw"
    exact hR
  · rw [erase_vl (f := tieD)]
    walk_at "pw"
    exact q
def tkey (t : Ti) : List Key := [.inr t.word, .inr t.bin]
theorem nodup_map_inj {α β : Type} {f : α → β} : ∀ {l : List α}, (l.map f).Nodup → ∀ {x y : α}, x ∈ l → y ∈ l → f x = f y → x = y
  | a :: l, nd, x, y, hx, hy, e => by
    have nd := List.nodup_cons.mp nd
    rcases List.mem_cons.mp hx with h1 | h1 <;> rcases List.mem_cons.mp hy with h2 | h2
    · rw [h1, h2]
    · exact absurd (by rw [← h1, e]; exact List.mem_map_of_mem h2) nd.1
    · exact absurd (by rw [← h2, ← e]; exact List.mem_map_of_mem h1) nd.1
    · exact nodup_map_inj nd.2 h1 h2 e
theorem Wk.tkey_inj {w : Wk} (h : w.Ok) {t u : Ti} (ht : t ∈ w.ties) (hu : u ∈ w.ties) (e : tkey t = tkey u) : t = u := by
  unfold tkey at e
  have e1 : t.word = u.word := Sum.inr.inj (List.cons.inj e).1
  have e2 : t.bin = u.bin := Sum.inr.inj (List.cons.inj (List.cons.inj e).2).1
  have pr : ("part" : Str) ≠ "room" := by decide +kernel
  rcases List.mem_append.mp ht with ht | ht <;> rcases List.mem_append.mp hu with hu | hu
  · obtain ⟨b, hb, rfl⟩ := List.mem_map.mp ht
    obtain ⟨c, hc, rfl⟩ := List.mem_map.mp hu
    rw [nodup_map_inj h.bnd hb hc e2]
  · obtain ⟨b, hb, rfl⟩ := List.mem_map.mp ht
    obtain ⟨c, hc, e3⟩ := List.mem_filterMap.mp hu
    unfold roomOf at e3
    rw [Option.map_eq_some_iff] at e3
    obtain ⟨r, _, rfl⟩ := e3
    exact absurd e1 pr
  · obtain ⟨b, hb, e3⟩ := List.mem_filterMap.mp ht
    obtain ⟨c, hc, rfl⟩ := List.mem_map.mp hu
    unfold roomOf at e3
    rw [Option.map_eq_some_iff] at e3
    obtain ⟨r, _, rfl⟩ := e3
    exact absurd e1.symm pr
  · obtain ⟨b, hb, e3⟩ := List.mem_filterMap.mp ht
    obtain ⟨c, hc, e4⟩ := List.mem_filterMap.mp hu
    unfold roomOf at e3 e4
    rw [Option.map_eq_some_iff] at e3 e4
    obtain ⟨r, hr, rfl⟩ := e3
    obtain ⟨s, hs, rfl⟩ := e4
    have : b = c := nodup_map_inj h.bnd hb hc e2
    subst this
    rw [hr] at hs
    cases hs
    rfl
def knownD (t : Ti) : D := .tup [.str t.start, .str t.goal, .int t.count]
def sp_law_known : PSp := fun ds R => ∃ (w : Wk), ds = [enc w] ∧ w.Ok ∧ ∀ es : List (List Key × D), (∀ t ∈ w.ties, look es (tkey t) = some (knownD t)) → R (.dt es)
theorem l_law_known : ∀ ds R, sp_law_known ds R → ds.length = 1 := by rintro ds R ⟨w, rfl, _⟩; rfl
def w_law_known : SW := (sSeq (sNew 1 wDt)
    (sSeq (sFor (wItS (wCall sp_law_ties (wCons (wV 0) wNil))) (.tp ((.nm 2) :: ((.nm 3) :: ((.nm 4) :: ((.nm 5) :: []))))) (sSet 1 (wV 2) (wTup (wCons (wV 3) (wCons (wV 4) (wCons (wV 5) wNil))))))
    (sFrz 1 (sRet (wV 1)))))
theorem look_eraseM : ∀ {es : List (List Key × T)} {k : List Key}, look (eraseM es) k = (look es k).map T.erase := by
  intro es k
  induction es with
  | nil => rfl
  | cons e es ih =>
    obtain ⟨a, t⟩ := e
    show look ((a, t.erase) :: eraseM es) k = _
    unfold look at ih ⊢
    rw [List.find?_cons, List.find?_cons]
    by_cases h : a = k
    · simp [h]
    · simp only [h, decide_false]
      exact ih
theorem p_law_known : ∀ ds R, sp_law_known ds R → w_law_known { nx := fun _ => R .non, rt := R } (startE 6 ds) := by
  rintro ds R ⟨w, rfl, hw, q⟩
  have tl := hw.tie_len
  unfold w_law_known
  walk_at "pw"
  refine ⟨w, rfl, hw, ?_⟩
  walk_at "pw"
  refine forW_inv encT (fun pre env => ∃ (es : List (List Key × T)) (j2 j3 j4 j5 : Option T), env = [some (.st (enc w)), some (.vt es), j2, j3, j4, j5] ∧ es.length ≤ pre.length ∧ ∀ t ∈ pre, look es (tkey t) = some (.st (knownD t))) ⟨[], _, _, _, _, rfl, by simp, fun t h => by cases h⟩ ?_ ?_
  · rintro pre t post env N e ⟨es, j2, j3, j4, j5, rfl, hl, hk⟩ hN
    have ht : t ∈ w.ties := by rw [e]; simp
    have hpl : pre.length ≤ 200 := by have := congrArg List.length e; simp at this; omega
    rw [encT_eq]
    walk_at "pw"
    refine ⟨by simp, by show es.length ≤ 100000; omega, _, rfl, hN _ ⟨putL es (tkey t) (.st (knownD t)), _, _, _, _, rfl, ?_, fun u hu => ?_⟩⟩
    · have := putL_len (es := es) (k := tkey t) (u := T.st (knownD t))
      simp; omega
    · rw [look_putL]
      by_cases z : tkey u = tkey t
      · rw [if_pos z]
        have hu' : u ∈ w.ties := by
          rcases List.mem_append.mp hu with hu | hu
          · rw [e]; exact List.mem_append_left _ hu
          · rw [List.mem_singleton.mp hu]; exact ht
        rw [Wk.tkey_inj hw hu' ht z]
      · rw [if_neg z]
        rcases List.mem_append.mp hu with hu | hu
        · exact hk u hu
        · exact absurd (by rw [List.mem_singleton.mp hu]) z
  · rintro env ⟨es, j2, j3, j4, j5, rfl, hl, hk⟩
    walk_at "pw"
    have : (T.vt es).erase = .dt (eraseM es) := by simp [T.erase]
    rw [this]
    refine q _ fun t ht => ?_
    rw [look_eraseM, hk t ht]
    simp
end Pw
namespace Pw
open PySem PySem.Spec PyProof.Rows L2
local macro_rules | `(tactic| walk_at "pw") => `(tactic| simp only [wV, wC, wOp, wUn, wTest, wAnd, wOr, wNot, wTru, wIf, wNil, wCons, wTup, wLst, wFz, wNw, wDk, wDt, wCB, wM, wM1, wCall, wGet2, wSl, wSo, wNo, wRev, wItS, wRg1, wRg2, wRg3, wEnum, wLc, wDc, wDisp, wPairs, wYes, sNext, sSeq, sAsg, sNew, sAsgT, sFrz, sDrop, sRet, sRetV, sRetN, sIf, sFor, sAugI, sApp, sSet, sSet2, sApp2, sDAug, sAppPop, sSdApp, sExt, sNever, setT_nm, setT_tp, setTs_nil, setTs_cons, T.it?, T.il?, plainL, startE, wipeE, List.map_cons, List.map_nil, List.length_cons, List.length_nil, List.replicate_succ, List.replicate_zero, List.cons_append, List.nil_append, List.append_nil, List.getElem?_cons_zero, List.getElem?_cons_succ, List.set_cons_zero, List.set_cons_succ, Option.some.injEq, T.st.injEq, T.vl.injEq, T.vk.injEq, D.tup.injEq, D.lst.injEq, D.int.injEq, D.str.injEq, D.bl.injEq, List.cons.injEq, exists_eq', exists_eq, Int.toNat_natCast, rng_eq, List.length_map, List.length_range, exists_eq_left', exists_eq_left, exists_and_left, and_true, true_and, Option.bind_some, Option.map_some, fGet_tup, fGet_lst, fGet_vl, fGet_str, fGet_dk, fGet_vk, fII_st, fAdd_int, fAdd_str, fAdd_lst, fAdd_lv, fEqA_int, fEqA_str, fNotN_non, fNotN_int, fIsN_non, fIsN_int, fLen_lst, fLen_tup, fLen_vl, fLen_str, dl_strN, dl_lst, reduceCtorEq, false_and, and_false, exists_false, false_or, or_false, fInt_int, fInt_bl, fTuple_lst, fTuple_vl, fTuple_tup, fList_tup, fList_lst, fMax_2, fMax_3, fMin_2, atI_0, atI_1, atI_2, atI_3, atI_4, erase_st, decide_eq_true_eq, Bool.false_eq_true, if_true, if_false, take_iff, isD_vk, isD_dk, gV, gD, pV, posV, sz_vk, sz_vl, kK_str, ch_vk, ch_vl, setCh_vk, setCh_vl, atI_tab, Option.getD_some, Option.getD_none, posL, putL_vl, gDt, ite_true, ite_false, wSortSc])
def sp_longest_path : PSp := fun ds R => ∃ (w : Wk) (a y : Str) (c many : Nat) (ES : Nat → List (Key × D)) (G : Nat → LG), ds = [enc w, .lst ((List.range (many + 1)).map fun c => .dk (ES c)), .str a, .str y, .int c] ∧ w.Ok ∧ w.Endless ∧ y ∈ w.names ∧ c < many + 1 ∧ many ≤ 900 ∧
  (∀ c, c < many + 1 → LayD (ES c) (G c) ∧ Back w G c) ∧ (G c y).isSome = true ∧ ∀ d, R d
theorem l_longest_path : ∀ ds R, sp_longest_path ds R → ds.length = 5 := by rintro ds R ⟨w, a, y, c, m, ES, G, rfl, _⟩; rfl
def w_longest_path : SW := (sSeq (sAsg 5 (wCall sp_ties_of (wCons (wV 0) wNil)))
    (sSeq (sNew 6 (wLst wNil))
    (sSeq (sAsg 7 (wV 3))
    (sSeq (sWhile (wTest (wOp fNotN (wOp fGet (wOp fGet (wOp fGet (wV 1) (wV 4)) (wV 7)) (wC (.int 1))) (wC .non))) (sSeq (sAsg 8 (wOp fGet (wV 5) (wOp fGet (wOp fGet (wOp fGet (wV 1) (wV 4)) (wV 7)) (wC (.int 1)))))
    (sSeq (sApp 6 (wOp fGet (wV 8) (wC (.int 0))))
    (sSeq (sAsg 7 (wOp fGet (wV 8) (wC (.int 1))))
    (sAugI 4 (fun i j => i - j) (wOp fGet (wV 8) (wC (.int 3))))))))
    (sRet (wCB fTuple (wCons (wRev (wV 6)) wNil)))))))
theorem p_longest_path : ∀ ds R, sp_longest_path ds R → w_longest_path { nx := fun _ => R .non, rt := R } (startE 9 ds) := by
  rintro ds R ⟨w, a, y0, c0, many, ES, G, rfl, hw, he, hy, hc, hm, hG, hs, q⟩
  have hy0 := hy
  obtain ⟨ord, ho, top⟩ := he
  have nl := hw.nlen
  unfold w_longest_path
  walk_at "pw"
  refine ⟨w, rfl, hw, ?_⟩
  refine ⟨by omega, ?_⟩
  refine while_inv (fun env => ∃ (y : Str) (c : Nat) (row : List D) (j8 : Option T), env = [some (.st (enc w)), some (.st (.lst ((List.range (many + 1)).map fun c => .dk (ES c)))), some (.st (.str a)), some (.st (.str y0)), some (.st (.int c)), some (.st (.lst (w.ties.map encT))), some (.vl (row.map .st)), some (.st (.str y)), j8] ∧
    y ∈ w.names ∧ c < many + 1 ∧ (G c y).isSome = true ∧ row.length + Wk.mu ord y c ≤ Wk.mu ord y0 c0) (muE ord 7 4) ⟨y0, c0, [], _, rfl, hy, hc, hs, by simp⟩ ?_
  rintro env N ⟨y, c, row, j8, rfl, hy, hc, hs, hl⟩ hN
  have hbig : Wk.mu ord y0 c0 ≤ 92000 := by
    unfold Wk.mu
    have h1 := ho.length_eq
    have h3 := ixOf_lt (ho.mem_iff.mpr hy0)
    have h4 : c0 * (ord.length + 1) ≤ 900 * 101 := Nat.mul_le_mul (by omega) (by omega)
    omega
  obtain ⟨hLay, hBack⟩ := hG c hc
  obtain ⟨⟨v, o⟩, eg⟩ := Option.isSome_iff_exists.mp hs
  have elook : look (ES c) (.inr y) = some (encP (v, o)) := by rw [hLay y, eg]; rfl
  walk_at "pw"
  rw [atI_rng hc]
  refine ⟨_, rfl, ?_⟩
  walk_at "pw"
  refine ⟨_, elook, ?_⟩
  unfold encP
  walk_at "pw"
  cases o with
  | none =>
    unfold encN
    walk_at "pw"
    exact ⟨row, dl_vl row, q _⟩
  | some i =>
    unfold encN
    walk_at "pw"
    refine ⟨_, elook, ?_⟩
    unfold encP encN
    walk_at "pw"
    obtain ⟨t, h1, h2, h3, h4⟩ := hBack y v i eg
    have ea : L2.atI (w.ties.map encT) (i : Int) = some (encT t) := by rw [atI_get, List.getElem?_map, h1]; rfl
    rw [ea]
    have ht := List.mem_of_getElem? h1
    have h0 := hw.cnt t ht
    have hlt : Wk.mu ord t.start (c - t.count.toNat) < Wk.mu ord y c := Wk.mu_lt hw ho top (Wk.ins_mem.mpr ⟨ht, h2⟩) h3
    refine ⟨_, rfl, ?_⟩
    rw [encT_eq]
    walk_at "pw"
    rw [show (c : Int) - t.count = ((c - t.count.toNat : Nat) : Int) by omega, show row.map T.st ++ [T.st (.tup [.str t.word, .str t.bin])] = (row ++ [D.tup [.str t.word, .str t.bin]]).map T.st by simp]
    exact ⟨by omega, hN _ ⟨t.start, c - t.count.toNat, row ++ [D.tup [.str t.word, .str t.bin]], _, rfl, (hw.tie ht).1, by omega, h4, by simp; omega⟩ hlt⟩
/-- how late x may start its round a without a later start of round b of y -/
def IsSl (w : Wk) (x : Str) (a : Nat) (y : Str) (b : Nat) : Option Int → Prop
  | none => b < a ∨ ∀ s, ¬ Walk w x y (b - a) s
  | some v => a ≤ b ∧ ∃ g, IsGr w x y (b - a) (some g) ∧ v = w.st y b - w.st x a - g
def sp_slack : PSp := fun ds R => ∃ (w : Wk) (x y : Str) (a b : Nat), ds = [enc w, .str x, .int a, .str y, .int b] ∧ w.Ok ∧ w.Endless ∧ w.Closed ∧ w.OnRings ∧ w.names.length < 64 ∧ (∀ t ∈ w.ties, t.count ≤ 200) ∧ x ∈ w.names ∧ y ∈ w.names ∧ b ≤ 400 ∧ ∀ (o : Option Int) (d : D), IsSl w x a y b o → R (.tup [encR o, d])
theorem l_slack : ∀ ds R, sp_slack ds R → ds.length = 5 := by rintro ds R ⟨w, a, y, c, m, rfl, _⟩; rfl
def w_slack : SW := (sSeq (sDrop (wCall sp_check_closed (wCons (wV 0) wNil)))
    (sSeq (sDrop (wCall sp_check_counts (wCons (wV 0) wNil)))
    (sSeq (sIf (wTest (wOp fGt (wV 4) (wC (.int 400)))) sNever sNext)
    (sSeq (sIf (wTest (wOp fLt (wV 4) (wV 2))) (sRet (wTup (wCons (wC .non) (wCons (wC .non) wNil)))) sNext)
    (sSeq (sAsg 5 (wCall sp_longest_times (wCons (wV 0) (wCons (wV 1) (wCons (wOp fSub (wV 4) (wV 2)) wNil)))))
    (sSeq (sIf (wTest (wOp (fInA true) (wV 3) (wOp fGet (wV 5) (wOp fSub (wV 4) (wV 2))))) (sRet (wTup (wCons (wC .non) (wCons (wC .non) wNil)))) sNext)
    (sSeq (sAsg 6 (wCall sp_names_of (wCons (wV 0) wNil)))
    (sSeq (sAsg 7 (wCall sp_rounds (wCons (wV 0) (wCons (wOp fAdd (wV 4) (wC (.int 1))) (wCons (wFz wDt) wNil)))))
    (sSeq (sAsg 8 (wOp fGet (wOp fGet (wOp fGet (wV 5) (wOp fSub (wV 4) (wV 2))) (wV 3)) (wC (.int 0))))
    (sSeq (sAsg 9 (wOp fSub (wOp fSub (wOp fGet (wOp fGet (wV 7) (wM fIndex (wV 6) (wCons (wV 3) wNil))) (wV 4)) (wOp fGet (wOp fGet (wV 7) (wM fIndex (wV 6) (wCons (wV 1) wNil))) (wV 2))) (wV 8)))
    (sRet (wTup (wCons (wV 9) (wCons (wCall sp_longest_path (wCons (wV 0) (wCons (wV 5) (wCons (wV 1) (wCons (wV 3) (wCons (wOp fSub (wV 4) (wV 2)) wNil)))))) wNil))))))))))))))
theorem p_slack : ∀ ds R, sp_slack ds R → w_slack { nx := fun _ => R .non, rt := R } (startE 10 ds) := by
  rintro ds R ⟨w, x, y, a, b, rfl, hw, he, hc, hr, n64, hcnt, hx, hy, hb, q⟩
  have tl := hw.tie_len
  have hne : w.ties ≠ [] := by
    obtain ⟨t, ht, _⟩ := hr x hx
    exact List.ne_nil_of_mem ht
  unfold w_slack
  walk_at "pw"
  refine ⟨w, rfl, hw, he, hc, hr, n64, w, rfl, hw, hne, hcnt, ?_⟩
  rw [if_neg (by omega)]
  by_cases hab : b < a
  · rw [if_pos (by omega)]
    exact ⟨by simp, q none .non (.inl hab)⟩
  rw [if_neg (by omega), show (b : Int) - a = ((b - a : Nat) : Int) by omega]
  refine ⟨w, x, b - a, rfl, hw, he, hx, by omega, fun ES G hG => ?_⟩
  have hlast : b - a < b - a + 1 := by omega
  obtain ⟨hLay, hGr, hBack⟩ := hG _ hlast
  walk_at "pw"
  rw [atI_rng hlast]
  refine ⟨_, rfl, ?_⟩
  refine .inr ⟨_, _, rfl, rfl, ?_⟩
  refine ⟨_, rfl, ?_⟩
  simp only [hLay y]
  have gy := hGr y
  cases eg : G (b - a) y with
  | none =>
    simp only [Option.map_none, Option.isSome_none, Bool.not_false, if_true]
    unfold fstO at gy
    rw [eg] at gy
    exact ⟨by simp, q none .non (.inr gy)⟩
  | some p =>
    obtain ⟨v, o⟩ := p
    unfold fstO at gy
    rw [eg] at gy
    simp only [Option.map_some, Option.isSome_some, Bool.not_true, Bool.false_eq_true, if_true, if_false]
    refine ⟨w, rfl, hw, ?_⟩
    refine ⟨w, b + 1, [], by simp [T.erase, eraseM], hw, he, by omega, ?_⟩
    rw [sol_nil]
    refine ⟨_, rfl, ?_⟩
    walk_at "pw"
    refine ⟨_, by rw [hLay y, eg]; rfl, ?_⟩
    unfold encP
    walk_at "pw"
    refine ⟨⟨_, rfl⟩, fIndex_strs hy (fGet_tabD hy (fGet_rowD rfl (by omega) ⟨⟨_, rfl⟩, fIndex_strs hx (fGet_tabD hx (fGet_rowD rfl (by omega) ?_))⟩))⟩
    walk_at "pw"
    refine ⟨w, x, y, b - a, b - a, ES, G, rfl, hw, he, hy, hlast, by omega, fun c hc => ⟨(hG c hc).1, (hG c hc).2.2⟩, by rw [eg]; rfl, fun d => ?_⟩
    exact ⟨by simp, q (some _) d ⟨by omega, v, gy, rfl⟩⟩
end Pw
namespace Pw
open PySem PySem.Spec PyProof.Rows L2
theorem fAdd_tup {ds es : List D} {Q : T → Prop} : fAdd (.st (.tup ds)) (.st (.tup es)) Q ↔ ds.length + es.length ≤ sizeLine ∧ Q (.st (.tup (ds ++ es))) := Iff.rfl
local macro_rules | `(tactic| walk_at "pw") => `(tactic| simp only [wV, wC, wOp, wUn, wTest, wAnd, wOr, wNot, wTru, wIf, wNil, wCons, wTup, wLst, wFz, wNw, wDk, wDt, wCB, wM, wM1, wCall, wGet2, wSl, wSo, wNo, wRev, wItS, wRg1, wRg2, wRg3, wEnum, wLc, wDc, wDisp, wPairs, wYes, sNext, sSeq, sAsg, sNew, sAsgT, sFrz, sDrop, sRet, sRetV, sRetN, sIf, sFor, sAugI, sApp, sSet, sSet2, sApp2, sDAug, sAppPop, sSdApp, sExt, sNever, setT_nm, setT_tp, setTs_nil, setTs_cons, T.it?, T.il?, plainL, startE, wipeE, List.map_cons, List.map_nil, List.length_cons, List.length_nil, List.replicate_succ, List.replicate_zero, List.cons_append, List.nil_append, List.append_nil, List.getElem?_cons_zero, List.getElem?_cons_succ, List.set_cons_zero, List.set_cons_succ, Option.some.injEq, T.st.injEq, T.vl.injEq, T.vk.injEq, D.tup.injEq, D.lst.injEq, D.int.injEq, D.str.injEq, D.bl.injEq, List.cons.injEq, exists_eq', exists_eq, Int.toNat_natCast, rng_eq, List.length_map, List.length_range, exists_eq_left', exists_eq_left, exists_and_left, and_true, true_and, Option.bind_some, Option.map_some, fGet_tup, fGet_lst, fGet_vl, fGet_str, fGet_dk, fGet_vk, fII_st, fAdd_int, fAdd_str, fAdd_lst, fAdd_lv, fEqA_int, fEqA_str, fNotN_non, fNotN_int, fIsN_non, fIsN_int, fLen_lst, fLen_tup, fLen_vl, fLen_str, dl_strN, dl_lst, reduceCtorEq, false_and, and_false, exists_false, false_or, or_false, fInt_int, fInt_bl, fTuple_lst, fTuple_vl, fTuple_tup, fList_tup, fList_lst, fMax_2, fMax_3, fMin_2, atI_0, atI_1, atI_2, atI_3, atI_4, erase_st, decide_eq_true_eq, Bool.false_eq_true, if_true, if_false, take_iff, isD_vk, isD_dk, gV, gD, pV, posV, sz_vk, sz_vl, kK_str, ch_vk, ch_vl, setCh_vk, setCh_vl, atI_tab, Option.getD_some, Option.getD_none, posL, putL_vl, gDt, ite_true, ite_false, wSortSc, fAdd_tup])
/-- a tie leads from each machine to the next one, and from the last one to the first -/
def Wk.Cyc (w : Wk) : Prop := ∀ i < w.names.length, ∃ t ∈ w.ties, w.names[i]? = some t.start ∧ w.names[(i + 1) % w.names.length]? = some t.goal
def sp_law_closed : PSp := fun ds R => ∃ most bins great : Nat, ds = [.bx, .int most, .int bins, .int great] ∧ (0 < most ∧ most ≤ 20 ∧ bins + most ≤ 25 ∧ 0 < great ∧ great ≤ 1000) ∧ ∀ w : Wk, w.Fine most (bins + most) great → w.Endless → w.Cyc → R (enc w)
theorem l_law_closed : ∀ ds R, sp_law_closed ds R → ds.length = 4 := by rintro ds R ⟨a, b, c, rfl, _⟩; rfl
def w_law_closed : SW := (sSeq (sAsgT (.tp ((.nm 8) :: ((.nm 9) :: []))) (wCall sp_law_works (wCons (wV 0) (wCons (wV 1) (wCons (wV 2) (wCons (wV 3) wNil))))))
    (sSeq (sAsg 4 (wFz (wLc (wItS (wV 8)) (.nm 12) wYes (wNw (wOp fGet (wV 12) (wC (.int 0)))) [12])))
    (sSeq (sAsg 5 (wFz (wLc (wItS (wV 9)) (.nm 13) wYes (wNw (wOp fGet (wV 13) (wC (.int 0)))) [13])))
    (sSeq (sAsg 6 (wSl (wFz (wLc (wItS (wCall sp_law_names (wCons (wV 0) (wCons (wC (.int 26)) wNil)))) (.nm 14) (wTest (wOp (fInA true) (wV 14) (wV 5))) (wNw (wV 14)) [14])) wNo (wSo (wCB fLen (wCons (wV 4) wNil)))))
    (sSeq (sFor (wRg1 (wCons (wCB fLen (wCons (wV 4) wNil)) wNil)) (.nm 7) (sSeq (sAsg 10 (wCall sp_law_pick (wCons (wV 0) (wCons (wFz (wLst (wCons (wC (.int 0)) (wCons (wC (.int 0)) (wCons (wC (.int 1)) (wCons (wC (.int 2)) wNil)))))) wNil))))
    (sSeq (sAsg 11 (wCall sp_law_pick (wCons (wV 0) (wCons (wFz (wLst (wCons (wC .non) (wCons (wC .non) (wCons (wOp fAdd (wV 10) (wC (.int 1))) (wCons (wOp fAdd (wV 10) (wC (.int 3))) wNil)))))) wNil))))
    (sAsg 9 (wOp fAdd (wV 9) (wTup (wCons (wTup (wCons (wOp fGet (wV 6) (wV 7)) (wCons (wOp fGet (wV 4) (wV 7)) (wCons (wOp fGet (wV 4) (wOp fMod (wCB fInt (wCons (wOp fAdd (wV 7) (wC (.int 1))) wNil)) (wCB fLen (wCons (wV 4) wNil)))) (wCons (wV 10) (wCons (wV 11) wNil)))))) wNil)))))))
    (sRet (wCall sp_law_lively (wCons (wV 0) (wCons (wTup (wCons (wV 8) (wCons (wCB fTuple (wCons (wCB fSortF (wCons (wV 9) wNil)) wNil)) wNil))) wNil)))))))))
theorem perm_lift {α β : Type} {f : α → β} {ys zs : List β} (h : ys.Perm zs) : ∀ xs : List α, zs = xs.map f → ∃ xs' : List α, xs'.Perm xs ∧ ys = xs'.map f := by
  induction h with
  | nil => intro xs e; exact ⟨xs, .refl _, e⟩
  | @cons x l1 l2 _ ih =>
    intro xs e
    cases xs with
    | nil => cases e
    | cons y ys =>
      rw [List.map_cons] at e
      obtain ⟨e1, e2⟩ := List.cons.inj e
      obtain ⟨xs', h1, h2⟩ := ih ys e2
      exact ⟨y :: xs', h1.cons y, by rw [h2, e1]; rfl⟩
  | swap x y l =>
    intro xs e
    cases xs with
    | nil => cases e
    | cons a r =>
      rw [List.map_cons] at e
      obtain ⟨e1, e2⟩ := List.cons.inj e
      cases r with
      | nil => cases e2
      | cons b r =>
        rw [List.map_cons] at e2
        obtain ⟨e2, e3⟩ := List.cons.inj e2
        exact ⟨b :: a :: r, List.Perm.swap _ _ _, by rw [e1, e2, e3]; rfl⟩
  | trans _ _ ih1 ih2 =>
    intro xs e
    obtain ⟨xs2, h1, h2⟩ := ih2 xs e
    obtain ⟨xs1, h3, h4⟩ := ih1 xs2 h2
    exact ⟨xs1, h3.trans h1, h4⟩
def rowB (b : Bn) : Str × List D := (b.name, [.str b.start, .str b.goal, .int b.stock, encR b.room])
theorem encB_row (b : Bn) : encB b = rowF (rowB b) := rfl
theorem p_law_closed : ∀ ds R, sp_law_closed ds R → w_law_closed { nx := fun _ => R .non, rt := R } (startE 15 ds) := by
  rintro ds R ⟨most, bins, great, rfl, ⟨m0, m1, b1, g0, g1⟩, q⟩
  unfold w_law_closed
  walk_at "pw"
  refine ⟨most, bins, great, rfl, ⟨m0, by omega, by omega, g0, g1⟩, fun w0 hf => ?_⟩
  have sm := hf.sm
  have sb := hf.sb
  have nl : w0.names.length = w0.ms.length := by unfold Wk.names; simp
  have npos := hf.pos
  unfold enc
  walk_at "pw"
  refine ⟨by omega, compW_map encM (fun m => .st (.str m.1)) (fun m _ R hR => ?_) ?_⟩
  · unfold encM; walk_at "pw"; exact hR
  rw [erase_vl (f := fun m : Str × Int => D.str m.1), show (w0.ms.map fun m : Str × Int => D.str m.1) = w0.names.map D.str by unfold Wk.names; rw [List.map_map]; rfl]
  refine ⟨by omega, compW_map encB (fun b => .st (.str b.name)) (fun b _ R hR => ?_) ?_⟩
  · unfold encB; walk_at "pw"; exact hR
  rw [erase_vl (f := fun b : Bn => D.str b.name), show (w0.bs.map fun b : Bn => D.str b.name) = (w0.bs.map (·.name)).map D.str by rw [List.map_map]; rfl]
  refine ⟨26, rfl, by omega, fun xs nd hl hxo => ?_⟩
  walk_at "pw"
  refine ⟨by omega, compW_filt D.str (fun x => !decide (x ∈ w0.bs.map (·.name))) (fun x => .st (.str x)) (fun x hx R hR => ?_) ?_⟩
  · rw [fIn_strs]
    refine ⟨_, rfl, ?_⟩
    by_cases hm : x ∈ w0.bs.map (·.name)
    · simp only [hm, decide_true, Bool.not_true, Bool.false_eq_true, if_false, if_true] at hR ⊢
      exact hR
    · simp only [hm, decide_false, Bool.not_false, if_true] at hR ⊢
      exact hR
  rw [erase_strs]
  have hheld : (w0.bs.map (·.name)).length ≤ bins := by rw [List.length_map]; exact sb
  have hfl : w0.names.length ≤ (xs.filter fun x => !decide (x ∈ w0.bs.map (·.name))).length := by
    have h1 := List.length_eq_countP_add_countP (fun x => decide (x ∈ w0.bs.map (·.name))) (l := xs)
    have h2 : (xs.filter fun x => decide (x ∈ w0.bs.map (·.name))).length ≤ (w0.bs.map (·.name)).length := len_sub (nd.sublist List.filter_sublist) fun x hx => by simpa using (List.mem_filter.mp hx).2
    rw [← List.countP_eq_length_filter] at h2 ⊢
    have h3 : xs.countP (fun x => !decide (x ∈ w0.bs.map (·.name))) = xs.countP fun x => decide ¬(decide (x ∈ w0.bs.map (·.name)) = true) := by
      congr 1
      funext x
      by_cases hx : x ∈ w0.bs.map (·.name)
      · simp only [hx, decide_true, not_true, decide_false, Bool.not_true]
      · simp only [hx, decide_false, Bool.false_eq_true, not_false_eq_true, decide_true, Bool.not_false]
    rw [h3]
    omega
  obtain ⟨more, hmore⟩ : ∃ more, more = (xs.filter fun x => !decide (x ∈ w0.bs.map (·.name))).take w0.names.length := ⟨_, rfl⟩
  have mlen : more.length = w0.names.length := by rw [hmore, List.length_take]; omega
  have mnd : more.Nodup := by rw [hmore]; exact nd.sublist ((List.take_sublist _ _).trans List.filter_sublist)
  have mok : ∀ x ∈ more, okS x ∧ x ∉ w0.bs.map (·.name) := by
    intro x hx
    rw [hmore] at hx
    obtain ⟨h1, h2⟩ := List.mem_filter.mp (List.mem_of_mem_take hx)
    exact ⟨hxo x h1, by simpa using h2⟩
  have ecut : cutL ((xs.filter fun x => !decide (x ∈ w0.bs.map (·.name))).map D.str) none (some (w0.names.length : Int)) = more.map D.str := by
    unfold cutL
    rw [HT.sIx_none, HT.sIx_nat, List.length_map, Nat.min_eq_left hfl, hmore, List.map_take]
    simp
  refine .inl ⟨_, dl_lst _, by omega, by omega, ?_⟩
  rw [ecut]
  refine forW_rng (fun k env => ∃ (ex : List Bn) (j7 j10 j11 : Option T), env = [some (.st .bx), some (.st (.int most)), some (.st (.int bins)), some (.st (.int great)), some (.st (.lst (w0.names.map D.str))), some (.st (.lst ((w0.bs.map (·.name)).map D.str))), some (.st (.lst (more.map D.str))), j7, some (.st (.tup (w0.ms.map encM))), some (.st (.tup ((w0.bs ++ ex).map encB))), j10, j11, none, none, none] ∧ ex.map (·.name) = more.take k ∧
    (∀ b ∈ ex, (b.start ∈ w0.names ∧ b.goal ∈ w0.names) ∧ 0 ≤ b.stock ∧ b.stock ≤ 2 ∧ (∀ r, b.room = some r → 1 ≤ r ∧ b.stock ≤ r ∧ r ≤ 5)) ∧ ∀ i < k, ∃ b ∈ ex, w0.names[i]? = some b.start ∧ w0.names[(i + 1) % w0.names.length]? = some b.goal) ⟨[], _, _, _, by rw [List.append_nil], rfl, (fun b h => by cases h), fun i h => absurd h (by omega)⟩ ?_ ?_
  · rintro k env N hk ⟨ex, j7, j10, j11, rfl, hn, hb, hc⟩ hN
    walk_at "pw"
    refine ⟨by omega, ?_⟩
    have ee : (T.vl [T.st (D.int 0), T.st (D.int 0), T.st (D.int 1), T.st (D.int 2)]).erase = .lst ([0, 0, 1, 2].map D.int) := by simp [T.erase, erases]
    rw [ee]
    refine pick_of (by simp) fun d hd => ?_
    obtain ⟨t, ht, rfl⟩ := List.mem_map.mp hd
    have ht : 0 ≤ t ∧ t ≤ 2 := by
      simp only [List.mem_cons, List.not_mem_nil, or_false] at ht
      omega
    walk_at "pw"
    refine ⟨by omega, ?_⟩
    have ee : (T.vl [T.st D.non, T.st D.non, T.st (D.int (t + 1)), T.st (D.int (t + 3))]).erase = .lst ([none, none, some (t + 1), some (t + 3)].map encR) := by simp [T.erase, erases, encR]
    rw [ee]
    refine pick_of (by simp) fun d hd => ?_
    obtain ⟨r, hr, rfl⟩ := List.mem_map.mp hd
    have hr : ∀ u, r = some u → 1 ≤ u ∧ t ≤ u ∧ u ≤ 5 := by
      intro u hu
      subst hu
      simp only [List.mem_cons, List.not_mem_nil, or_false, reduceCtorEq, false_or, Option.some.injEq] at hr
      omega
    have hk2 : (k + 1) % w0.names.length < w0.names.length := Nat.mod_lt _ (by omega)
    have em : ((k : Int) + 1) % (w0.names.length : Int) = (((k + 1) % w0.names.length : Nat) : Int) := by rw [Int.natCast_emod]; rfl
    rw [em]
    have at1 : L2.atI (more.map D.str) (k : Int) = some (.str (more[k]'(by omega))) := by rw [atI_get, List.getElem?_map, List.getElem?_eq_getElem (by omega)]; rfl
    have at2 : ∀ (i : Nat) (hi : i < w0.names.length), L2.atI (w0.names.map D.str) (i : Int) = some (.str w0.names[i]) := fun i hi => by rw [atI_get, List.getElem?_map, List.getElem?_eq_getElem hi]; rfl
    have el : ex.length = k := by
      have := congrArg List.length hn
      rw [List.length_map, List.length_take] at this
      omega
    have eb : (w0.bs ++ ex).map encB ++ [D.tup [.str (more[k]'(by omega)), .str w0.names[k], .str w0.names[(k + 1) % w0.names.length], .int t, encR r]] = (w0.bs ++ (ex ++ [(Bn.mk (more[k]'(by omega)) w0.names[k] (w0.names[(k + 1) % w0.names.length]) t r)])).map encB := by
      rw [List.map_append, List.map_append, List.map_append, List.append_assoc]
      rfl
    refine ⟨_, at1, _, at2 k hk, by omega, _, at2 _ hk2, by omega, by omega, ?_⟩
    rw [eb]
    refine ⟨by rw [List.length_append]; exact Nat.le_trans (by omega : _ ≤ 1000) (by decide), hN _ ⟨_, _, _, _, rfl, ?_, fun b hb' => ?_, fun i hi => ?_⟩⟩
    · rw [List.map_append, hn, List.take_succ_eq_append_getElem (by omega)]
      rfl
    · rcases List.mem_append.mp hb' with hb' | hb'
      · exact hb b hb'
      · rw [List.mem_singleton.mp hb']
        exact ⟨⟨List.getElem_mem _, List.getElem_mem _⟩, ht.1, ht.2, hr⟩
    · by_cases hik : i < k
      · obtain ⟨b, h1, h2⟩ := hc i hik
        exact ⟨b, List.mem_append_left _ h1, h2⟩
      · have : i = k := by omega
        subst this
        exact ⟨_, List.mem_append_right _ (List.mem_singleton.mpr rfl), by rw [List.getElem?_eq_getElem hk], by rw [List.getElem?_eq_getElem hk2]⟩
  · rintro env ⟨ex, j7, j10, j11, rfl, hn, hb, hc⟩
    walk_at "pw"
    have hn : ex.map (·.name) = more := by rw [hn, List.take_of_length_le (by omega)]
    have el : ex.length = w0.names.length := by rw [← mlen, ← hn, List.length_map]
    have hnd : ((w0.bs ++ ex).map (·.name)).Nodup := by
      rw [List.map_append, hn, List.nodup_append]
      refine ⟨hf.bnd, mnd, fun a ha b hb e => ?_⟩
      subst e
      exact (mok a hb).2 ha
    refine ⟨_, (w0.bs ++ ex).map rowB, rfl, .inr (by rw [List.map_map]; rfl), by rw [List.map_map]; exact hnd, fun ys hp _ => ?_⟩
    obtain ⟨bs', hp', rfl⟩ := perm_lift hp _ rfl
    rw [List.map_map, show bs'.map (rowF ∘ rowB) = bs'.map encB from rfl]
    walk_at "pw"
    have hmem : ∀ b ∈ bs', b ∈ w0.bs ∨ b ∈ ex := fun b hb => List.mem_append.mp (hp'.mem_iff.mp hb)
    have fine : (⟨w0.ms, bs'⟩ : Wk).Fine most (bins + most) great := {
      nd := hf.nd
      pos := hf.pos
      sm := hf.sm
      sb := by
        have := hp'.length_eq
        rw [List.length_append] at this
        show bs'.length ≤ _
        omega
      bnd := (hp'.map _).nodup_iff.mpr hnd
      ends := by
        intro b hbb
        rcases hmem b hbb with h | h
        · exact hf.ends b h
        · exact (hb b h).1
      stk := by
        intro b hbb
        rcases hmem b hbb with h | h
        · exact hf.stk b h
        · have := (hb b h).2
          omega
      rm := by
        intro b hbb r hr
        rcases hmem b hbb with h | h
        · exact hf.rm b h r hr
        · have := (hb b h).2.2.2 r hr
          omega
      tm := hf.tm
      oks := hf.oks
      okb := by
        intro x hx
        obtain ⟨b, hbb, rfl⟩ := List.mem_map.mp hx
        rcases hmem b hbb with h | h
        · exact hf.okb _ (List.mem_map_of_mem h)
        · exact (mok _ (by rw [← hn]; exact List.mem_map_of_mem h)).1 }
    refine ⟨by simp, ⟨w0.ms, bs'⟩, most, bins + most, great, rfl, ⟨by omega, by omega⟩, fine, fun ord hord => ?_⟩
    refine q _ (live_fine fine ord) (live_endless hord) fun i hi => ?_
    obtain ⟨b, h1, h2, h3⟩ := hc i hi
    refine ⟨Wk.partOf (live ord b), List.mem_append_left _ (List.mem_map_of_mem (List.mem_map_of_mem (hp'.mem_iff.mpr (List.mem_append_right _ h1)))), h2, h3⟩
end Pw
namespace Pw
open PySem PySem.Spec PyProof.Rows L2
local macro_rules | `(tactic| walk_at "pw") => `(tactic| simp only [wV, wC, wOp, wUn, wTest, wAnd, wOr, wNot, wTru, wIf, wNil, wCons, wTup, wLst, wFz, wNw, wDk, wDt, wCB, wM, wM1, wCall, wGet2, wSl, wSo, wNo, wRev, wItS, wRg1, wRg2, wRg3, wEnum, wLc, wDc, wDisp, wPairs, wYes, sNext, sSeq, sAsg, sNew, sAsgT, sFrz, sDrop, sRet, sRetV, sRetN, sIf, sFor, sAugI, sApp, sSet, sSet2, sApp2, sDAug, sAppPop, sSdApp, sExt, sNever, setT_nm, setT_tp, setTs_nil, setTs_cons, T.it?, T.il?, plainL, startE, wipeE, List.map_cons, List.map_nil, List.length_cons, List.length_nil, List.replicate_succ, List.replicate_zero, List.cons_append, List.nil_append, List.append_nil, List.getElem?_cons_zero, List.getElem?_cons_succ, List.set_cons_zero, List.set_cons_succ, Option.some.injEq, T.st.injEq, T.vl.injEq, T.vk.injEq, D.tup.injEq, D.lst.injEq, D.int.injEq, D.str.injEq, D.bl.injEq, List.cons.injEq, exists_eq', exists_eq, Int.toNat_natCast, rng_eq, List.length_map, List.length_range, exists_eq_left', exists_eq_left, exists_and_left, and_true, true_and, Option.bind_some, Option.map_some, fGet_tup, fGet_lst, fGet_vl, fGet_str, fGet_dk, fGet_vk, fII_st, fAdd_int, fAdd_str, fAdd_lst, fAdd_lv, fEqA_int, fEqA_str, fNotN_non, fNotN_int, fIsN_non, fIsN_int, fLen_lst, fLen_tup, fLen_vl, fLen_str, dl_strN, dl_lst, reduceCtorEq, false_and, and_false, exists_false, false_or, or_false, fInt_int, fInt_bl, fTuple_lst, fTuple_vl, fTuple_tup, fList_tup, fList_lst, fMax_2, fMax_3, fMin_2, atI_0, atI_1, atI_2, atI_3, atI_4, erase_st, decide_eq_true_eq, Bool.false_eq_true, if_true, if_false, take_iff, isD_vk, isD_dk, gV, gD, pV, posV, sz_vk, sz_vl, kK_str, ch_vk, ch_vl, setCh_vk, setCh_vl, atI_tab, Option.getD_some, Option.getD_none, posL, putL_vl, gDt, ite_true, ite_false, wSortSc, fAdd_tup])
/-! ### plain: starts along ties -/
theorem Wk.st_tie {w : Wk} (h : w.Ok) (he : w.Endless) {t : Ti} (ht : t ∈ w.ties) (j : Nat) : w.st t.start j + w.time t.start ≤ w.st t.goal (j + t.count.toNat) := by
  have h0 := h.cnt t ht
  rw [Wk.st_rec h he (h.tie ht).2]
  refine le_maxL (.tail _ (List.mem_map.mpr ⟨t, List.mem_filter.mpr ⟨Wk.ins_mem.mpr ⟨ht, rfl⟩, ?_⟩, ?_⟩))
  · simp; omega
  · rw [show j + t.count.toNat - t.count.toNat = j by omega]
theorem Wk.st_walk {w : Wk} (h : w.Ok) (he : w.Endless) {x y : Str} {c : Nat} {s : Int} (hw : Walk w x y c s) : ∀ j, w.st x j + s ≤ w.st y (j + c) := by
  induction hw with
  | nil => intro j; simp
  | @cons t y c s ht _ ih =>
    intro j
    have h1 := Wk.st_tie h he ht j
    have h2 := ih (j + t.count.toNat)
    rw [Nat.add_assoc] at h2
    omega
theorem Chain.walk {w : Wk} {x y : Str} {j k : Nat} {p : List Ti} (h : Chain w x j p y k) : j ≤ k ∧ ∃ s, Walk w x y (k - j) s ∧ w.st y k = w.st x j + s := by
  induction h with
  | nil x k => exact ⟨Nat.le_refl _, 0, by rw [Nat.sub_self]; exact .nil _, by omega⟩
  | @cons t p y j k ht e _ ih =>
    obtain ⟨h1, s, h2, h3⟩ := ih
    exact ⟨by omega, w.time t.start + s, .cons' ht h2 rfl (by omega) rfl, by omega⟩
theorem slack_chain {w : Wk} (h : w.Ok) (he : w.Endless) {x y : Str} {j k : Nat} {p : List Ti} (hc : Chain w x j p y k) {o : Option Int} (ho : IsSl w x j y k o) : o = some 0 := by
  obtain ⟨h1, s, h2, h3⟩ := hc.walk
  cases o with
  | none =>
    rcases ho with ho | ho
    · omega
    · exact absurd h2 (ho s)
  | some v =>
    obtain ⟨_, g, ⟨g1, g2⟩, e⟩ := ho
    have h4 := g2 s h2
    have h5 := Wk.st_walk h he g1 j
    rw [show j + (k - j) = k by omega] at h5
    rw [e]
    congr 1
    omega
theorem walk_zero {w : Wk} {ord : List Str} (top : ∀ t ∈ w.ties, t.count = 0 → ixOf ord t.start < ixOf ord t.goal) (h : w.Ok) {x y : Str} {c : Nat} {s : Int} (hw : Walk w x y c s) : c = 0 → ixOf ord x ≤ ixOf ord y := by
  induction hw with
  | nil => intro _; exact Nat.le_refl _
  | @cons t y c s ht _ ih =>
    intro e
    have h0 := h.cnt t ht
    have h1 := top t ht (by omega)
    have h2 := ih (by omega)
    omega
theorem Wk.Cyc.closed {w : Wk} (h : w.Ok) (hc : w.Cyc) : w.Closed ∧ w.OnRings := by
  have n0 := h.npos
  have go : ∀ (d i : Nat) (hi : i < w.names.length), RT w.ties w.names[i] (w.names[(i + d) % w.names.length]'(Nat.mod_lt _ n0)) := by
    intro d
    induction d with
    | zero => intro i hi; simp only [Nat.add_zero, Nat.mod_eq_of_lt hi]; exact .refl _
    | succ d ih =>
      intro i hi
      obtain ⟨t, ht, e1, e2⟩ := hc ((i + d) % w.names.length) (Nat.mod_lt _ n0)
      rw [List.getElem?_eq_getElem (Nat.mod_lt _ n0)] at e1 e2
      have e1 := Option.some.inj e1
      have e2 := Option.some.inj e2
      have := (ih i hi).step' ht e1
      rw [← e2] at this
      simp only [Nat.mod_add_mod] at this
      exact this
  have cl : w.Closed := by
    intro x hx y hy
    obtain ⟨i, hi, rfl⟩ := List.mem_iff_getElem.mp hx
    obtain ⟨j, hj, rfl⟩ := List.mem_iff_getElem.mp hy
    have := go (j + w.names.length - i) i hi
    simp only [show i + (j + w.names.length - i) = j + w.names.length by omega, Nat.add_mod_right, Nat.mod_eq_of_lt hj] at this
    exact this
  refine ⟨cl, fun x hx => ?_⟩
  obtain ⟨i, hi, rfl⟩ := List.mem_iff_getElem.mp hx
  obtain ⟨t, ht, e1, e2⟩ := hc i hi
  rw [List.getElem?_eq_getElem hi] at e1
  exact ⟨t, ht, (Option.some.inj e1).symm, cl _ (h.tie ht).2 _ hx⟩
/-! ### plain: one late start -/
section
variable {w : Wk} {x0 : Str} {e0 : Nat} {late : Int} {L : Nat → Nat → Int} {f : Str → Nat → Int}
theorem late_tie (h : w.Ok) (hL : ∀ x ∈ w.names, ∀ k, 0 ≤ L (ixOf w.names x) k) (hf : w.Rec (w.combL L) f) {t : Ti} (ht : t ∈ w.ties) (j : Nat) : f t.start j + w.time t.start ≤ f t.goal (j + t.count.toNat) := by
  have h0 := h.cnt t ht
  have hg := (h.tie ht).2
  rw [hf _ hg]
  have h1 := hL _ hg (j + t.count.toNat)
  have h2 : f t.start j + w.time t.start ≤ maxL (0 :: w.preds f t.goal (j + t.count.toNat)) := by
    refine le_maxL (.tail _ (List.mem_map.mpr ⟨t, List.mem_filter.mpr ⟨Wk.ins_mem.mpr ⟨ht, rfl⟩, ?_⟩, ?_⟩))
    · simp; omega
    · rw [show j + t.count.toNat - t.count.toNat = j by omega]
  unfold Wk.combL
  omega
theorem late_walk (h : w.Ok) (hL : ∀ x ∈ w.names, ∀ k, 0 ≤ L (ixOf w.names x) k) (hf : w.Rec (w.combL L) f) {x y : Str} {c : Nat} {s : Int} (hw : Walk w x y c s) : ∀ j, f x j + s ≤ f y (j + c) := by
  induction hw with
  | nil => intro j; simp
  | @cons t y c s ht _ ih =>
    intro j
    have h1 := late_tie h hL hf ht j
    have h2 := ih (j + t.count.toNat)
    rw [Nat.add_assoc] at h2
    omega
theorem late_ge (h : w.Ok) (he : w.Endless) (hL : ∀ x ∈ w.names, ∀ k, 0 ≤ L (ixOf w.names x) k) (hf : w.Rec (w.combL L) f) : ∀ x ∈ w.names, ∀ k, w.st x k + L (ixOf w.names x) k ≤ f x k := by
  refine he.ind h fun x hx k ih => ?_
  rw [hf x hx k, Wk.st_rec h he hx k]
  unfold Wk.combL
  have : maxL (0 :: w.preds w.st x k) ≤ maxL (0 :: w.preds f x k) := by
    have hm := maxL_mem (ns := 0 :: w.preds w.st x k) (by simp)
    rcases List.mem_cons.mp hm with hm | hm
    · rw [hm]; exact le_maxL (.head _)
    · unfold Wk.preds at hm
      obtain ⟨t, ht, e⟩ := List.mem_map.mp hm
      obtain ⟨ht1, ht2⟩ := List.mem_filter.mp ht
      have hc : t.count ≤ (k : Int) := by simpa using ht2
      obtain ⟨ht3, _⟩ := Wk.ins_mem.mp ht1
      have h1 := ih t ht1 hc
      have h2 := hL _ (h.tie ht3).1 (k - t.count.toNat)
      have h3 : f t.start (k - t.count.toNat) + w.time t.start ≤ maxL (0 :: w.preds f x k) := le_maxL (.tail _ (List.mem_map.mpr ⟨t, ht, rfl⟩))
      unfold Wk.preds
      rw [← e]
      unfold Wk.preds at h3
      omega
  omega
theorem late_le (h : w.Ok) (he : w.Endless) (hl : 0 ≤ late) (hL : ∀ x ∈ w.names, ∀ k, L (ixOf w.names x) k = if x = x0 ∧ k = e0 then late else 0) (hf : w.Rec (w.combL L) f) : ∀ x ∈ w.names, ∀ k, f x k ≤ w.st x k ∨ ∃ c s, Walk w x0 x c s ∧ e0 + c = k ∧ f x k ≤ w.st x0 e0 + late + s := by
  refine he.ind h fun x hx k ih => ?_
  have h1 := hf x hx k
  unfold Wk.combL at h1
  rw [hL x hx k] at h1
  have h2 := Wk.st_nonneg h he hx k
  -- what the ties ask
  have main : maxL (0 :: w.preds f x k) ≤ w.st x k ∨ ∃ c s t, t ∈ w.ties ∧ t.goal = x ∧ Walk w x0 t.start c s ∧ e0 + c + t.count.toNat = k ∧ maxL (0 :: w.preds f x k) ≤ w.st x0 e0 + late + s + w.time t.start := by
    have hm := maxL_mem (ns := 0 :: w.preds f x k) (by simp)
    rcases List.mem_cons.mp hm with hm | hm
    · left; omega
    · unfold Wk.preds at hm
      obtain ⟨t, ht, e⟩ := List.mem_map.mp hm
      obtain ⟨ht1, ht2⟩ := List.mem_filter.mp ht
      have hc : t.count ≤ (k : Int) := by simpa using ht2
      obtain ⟨ht3, ht4⟩ := Wk.ins_mem.mp ht1
      have h0 := h.cnt t ht3
      unfold Wk.preds
      rw [← e]
      rcases ih t ht1 hc with q | ⟨c, s, q1, q2, q3⟩
      · left
        have := Wk.st_tie h he ht3 (k - t.count.toNat)
        rw [ht4, show k - t.count.toNat + t.count.toNat = k by omega] at this
        omega
      · right
        exact ⟨c, s, t, ht3, ht4, q1, by omega, by omega⟩
  by_cases hxk : x = x0 ∧ k = e0
  · rw [if_pos hxk] at h1
    obtain ⟨e1, e2⟩ := hxk
    right
    refine ⟨0, 0, by rw [e1]; exact .nil _, by omega, ?_⟩
    rcases main with q | ⟨c, s, t, q1, q2, q3, q4, q5⟩
    · rw [← e1, ← e2]; omega
    · obtain ⟨ord, ho, top⟩ := he
      have h0 := h.cnt t q1
      have h3 := walk_zero top h q3 (by omega)
      have h4 := top t q1 (by omega)
      rw [q2, e1] at h4
      omega
  · rw [if_neg hxk] at h1
    rcases main with q | ⟨c, s, t, q1, q2, q3, q4, q5⟩
    · left; omega
    · right
      refine ⟨c + t.count.toNat, s + w.time t.start, ?_, by omega, by omega⟩
      rw [← q2]
      exact q3.snoc q1 rfl rfl rfl
/-- the lateness is what the slack leaves -/
theorem late_slack (h : w.Ok) (he : w.Endless) (hl : 0 ≤ late) (hx0 : x0 ∈ w.names) (hL : ∀ x ∈ w.names, ∀ k, L (ixOf w.names x) k = if x = x0 ∧ k = e0 then late else 0) (hf : w.Rec (w.combL L) f) {y : Str} (hy : y ∈ w.names) {k : Nat} (hk : e0 ≤ k) {o : Option Int} (ho : IsSl w x0 e0 y k o) :
    f y k - w.st y k = match o with | none => 0 | some v => max 0 (late - v) := by
  have hL0 : ∀ x ∈ w.names, ∀ k, 0 ≤ L (ixOf w.names x) k := fun x hx k => by rw [hL x hx k]; split <;> omega
  have ge := late_ge h he hL0 hf
  have le := late_le h he hl hL hf y hy k
  have g1 := ge y hy k
  have g2 := hL0 y hy k
  have g3 := ge x0 hx0 e0
  rw [hL x0 hx0 e0, if_pos ⟨rfl, rfl⟩] at g3
  cases o with
  | none =>
    rcases ho with ho | ho
    · omega
    · rcases le with q | ⟨c, s, q1, q2, q3⟩
      · show f y k - w.st y k = 0
        omega
      · rw [show k - e0 = c by omega] at ho
        exact absurd q1 (ho s)
  | some v =>
    obtain ⟨_, g, ⟨w1, w2⟩, e⟩ := ho
    have g4 := late_walk h hL0 hf w1 e0
    rw [show e0 + (k - e0) = k by omega] at g4
    show f y k - w.st y k = max 0 (late - v)
    rcases le with q | ⟨c, s, q1, q2, q3⟩
    · omega
    · rw [show c = k - e0 by omega] at q1
      have := w2 s q1
      omega
end
theorem fGet_known {es : List (List Key × D)} {t : Ti} {d : D} {Q : T → Prop} (h : look es (tkey t) = some d) (q : Q (.st d)) : fGet (.st (.dt es)) (.st (tieD t)) Q := by
  refine .inr ⟨_, .st d, rfl, ?_, q⟩
  show some ((look es (tkey t)).map T.st) = _
  rw [h]; rfl
theorem forW_rng2 {n : Nat} {lo : Int} {env : Env} {tg : Tgt} {body : SW} {E : EndsW} (I : Nat → Env → Prop) (h0 : I 0 env)
    (hs : ∀ (k : Nat) (env : Env) (N : Env → Prop), k < n → I k env → (∀ env', I (k + 1) env' → N env') → ∃ env', setT tg (.int (lo + k)) env = some env' ∧ body { nx := N, rt := E.rt, bk := E.nx, ct := N, rv := E.rv } env')
    (hd : ∀ env, I n env → E.nx env) : forW tg body E ((List.range n).map fun i : Nat => D.int (lo + i)) env := by
  refine forW_inv (fun i : Nat => D.int (lo + i)) (fun pre env => I pre.length env) h0 (fun pre x post env N e h hN => ?_) fun env h => hd env (by simpa using h)
  have h1 : x = pre.length := by
    have : (List.range n)[pre.length]? = some x := by rw [e]; simp
    rw [List.getElem?_eq_some_iff] at this
    obtain ⟨_, h⟩ := this
    simpa using h.symm
  have h2 : x < n := by
    have : x ∈ List.range n := by rw [e]; simp
    simpa using this
  subst h1
  exact hs _ env N h2 h fun env' h3 => hN env' (by simpa using h3)
def w_law : SW := (sSeq (sAsg 2 (wCall sp_law_closed (wCons (wV 1) (wCons (wC (.int 5)) (wCons (wC (.int 4)) (wCons (wC (.int 2)) wNil))))))
    (sSeq (sAsg 3 (wCall sp_law_name_list (wCons (wV 2) wNil)))
    (sSeq (sAsg 4 (wCall sp_law_pick (wCons (wV 1) (wCons (wV 3) wNil))))
    (sSeq (sAsg 5 (wCall sp_law_take (wCons (wV 1) (wCons (wC (.int 16)) wNil))))
    (sSeq (sAsgT (.tp ((.nm 16) :: ((.nm 17) :: ((.nm 18) :: [])))) (wCall sp_cause_of (wCons (wV 2) (wCons (wV 4) (wCons (wV 5) wNil)))))
    (sSeq (sAsg 6 (wCall sp_law_known (wCons (wV 2) wNil)))
    (sSeq (sPar2 19 20 (wCons (wV 16) (wCons (wV 17) wNil)))
    (sSeq (sFor (wRg1 (wCons (wOp fAdd (wCB fLen (wCons (wV 18) wNil)) (wC (.int 1))) wNil)) (.nm 7) (sSeq (sAsg 21 (wCall sp_slack (wCons (wV 2) (wCons (wV 19) (wCons (wV 20) (wCons (wV 4) (wCons (wV 5) wNil)))))))
    (sSeq (sIf (wTest (wOp fNeA (wOp fGet (wV 21) (wC (.int 0))) (wC (.int 0)))) (sRet (wC (.bl false))) sNext)
    (sIf (wTest (wOp fLt (wV 7) (wCB fLen (wCons (wV 18) wNil)))) (sSeq (sAsg 20 (wOp fAdd (wV 20) (wOp fGet (wOp fGet (wV 6) (wOp fGet (wV 18) (wV 7))) (wC (.int 2)))))
    (sAsg 19 (wOp fGet (wOp fGet (wV 6) (wOp fGet (wV 18) (wV 7))) (wC (.int 1))))) sNext))))
    (sSeq (sIf (wTest (wOp fNeA (wTup (wCons (wV 19) (wCons (wV 20) wNil))) (wTup (wCons (wV 4) (wCons (wV 5) wNil))))) (sRet (wC (.bl false))) sNext)
    (sSeq (sAsg 8 (wCall sp_law_rounds (wCons (wV 2) (wCons (wOp fAdd (wV 5) (wC (.int 1))) (wCons (wFz wDt) wNil)))))
    (sSeq (sAsg 9 (wCall sp_law_times (wCons (wV 2) wNil)))
    (sSeq (sFor (wItS (wCall sp_ties_waited (wCons (wV 2) (wCons (wV 4) (wCons (wV 5) wNil))))) (.nm 10) (sSeq (sAsgT (.tp ((.nm 23) :: ((.nm 24) :: ((.nm 25) :: [])))) (wOp fGet (wV 6) (wV 10)))
    (sIf (wOr (wTest (wOp fNeA (wOp fGet (wCall sp_slack (wCons (wV 2) (wCons (wV 23) (wCons (wOp fSub (wV 5) (wV 25)) (wCons (wV 4) (wCons (wV 5) wNil)))))) (wC (.int 0))) (wC (.int 0)))) (wTest (wOp fNeA (wOp fAdd (wOp fGet (wOp fGet (wV 8) (wM fIndex (wV 3) (wCons (wV 23) wNil))) (wOp fSub (wV 5) (wV 25))) (wOp fGet (wV 9) (wV 23))) (wOp fGet (wOp fGet (wV 8) (wM fIndex (wV 3) (wCons (wV 4) wNil))) (wV 5))))) (sRet (wC (.bl false))) sNext)))
    (sSeq (sAsg 11 (wCall sp_law_take (wCons (wV 1) (wCons (wCB fLen (wCons (wV 3) wNil)) wNil))))
    (sSeq (sAsg 12 (wCall sp_law_take (wCons (wV 1) (wCons (wOp fAdd (wV 5) (wC (.int 1))) wNil))))
    (sSeq (sAsg 13 (wOp fAdd (wC (.int 1)) (wCall sp_law_take (wCons (wV 1) (wCons (wC (.int 40)) wNil)))))
    (sSeq (sAsg 14 (wCall sp_law_rounds (wCons (wV 2) (wCons (wOp fAdd (wV 5) (wC (.int 1))) (wCons (wFz (wDispT (wTup (wCons (wV 11) (wCons (wV 12) wNil))) (wV 13))) wNil)))))
    (sSeq (sFor (wRg1 (wCons (wCB fLen (wCons (wV 3) wNil)) wNil)) (.nm 15) (sFor (wRg2 (wCons (wV 12) (wCons (wOp fAdd (wV 5) (wC (.int 1))) wNil))) (.nm 22) (sSeq (sAsg 21 (wCall sp_slack (wCons (wV 2) (wCons (wOp fGet (wV 3) (wV 11)) (wCons (wV 12) (wCons (wOp fGet (wV 3) (wV 15)) (wCons (wV 22) wNil)))))))
    (sSeq (sAsg 26 (wIf (wTest (wOp fIsN (wOp fGet (wV 21) (wC (.int 0))) (wC .non))) (wC (.int 0)) (wCB fMax (wCons (wC (.int 0)) (wCons (wOp fSub (wV 13) (wOp fGet (wV 21) (wC (.int 0)))) wNil)))))
    (sIf (wTest (wOp fNeA (wOp fSub (wOp fGet (wOp fGet (wV 14) (wV 15)) (wV 22)) (wOp fGet (wOp fGet (wV 8) (wV 15)) (wV 22))) (wV 26))) (sRet (wC (.bl false))) sNext)))))
    (sRet (wC (.bl true))))))))))))))))))))
theorem p_law : w_law { nx := fun _ => False, rt := fun d => d = .bl true } (lawE 27) := by
  unfold w_law lawE
  walk_at "pw"
  refine ⟨5, 4, 2, rfl, by decide, fun w hw he hcy => ?_⟩
  have h := hw.ok (by omega) (by omega)
  have nl : w.names.length ≤ 5 := by
    have := hw.sm
    unfold Wk.names
    rw [List.length_map]
    exact this
  obtain ⟨hcl, hor⟩ := Wk.Cyc.closed h hcy
  have hcnt : ∀ t ∈ w.ties, t.count ≤ 200 := by
    intro t ht
    rcases List.mem_append.mp ht with m | m
    · obtain ⟨b, hb, rfl⟩ := List.mem_map.mp m
      have := hw.stk b hb
      show b.stock ≤ 200
      omega
    · obtain ⟨b, hb, e⟩ := List.mem_filterMap.mp m
      unfold Wk.roomOf at e
      rw [Option.map_eq_some_iff] at e
      obtain ⟨r, hr, rfl⟩ := e
      have h1 := hw.rm b hb r hr
      have h2 := hw.stk b hb
      show r - b.stock ≤ 200
      omega
  refine ⟨w, rfl, h, ?_⟩
  refine pick_of (by intro e; have e2 := congrArg List.length e; rw [List.length_map] at e2; have := h.npos; simp at e2; rw [e2] at this; simp at this) fun d hd => ?_
  obtain ⟨m, hm, rfl⟩ := List.mem_map.mp hd
  refine ⟨by omega, fun k k0 k1 => ?_⟩
  obtain ⟨k, rfl⟩ := Int.eq_ofNat_of_zero_le k0
  have hk : k < 16 := by omega
  have slk : ∀ {R : D → Prop} (x y : Str) (a b : Nat), x ∈ w.names → y ∈ w.names → b ≤ 400 → (∀ (o : Option Int) (d : D), IsSl w x a y b o → R (.tup [encR o, d])) → sp_slack [enc w, .str x, .int a, .str y, .int b] R :=
    fun x y a b hx hy hb q => ⟨w, x, y, a, b, rfl, h, he, hcl, hor, by omega, hcnt, hx, hy, hb, q⟩
  refine ⟨w, m, k, rfl, h, he, hm, by omega, fun x j p hx hc hj hz hp => ?_⟩
  walk_at "pw"
  refine ⟨w, rfl, h, fun es hes => ?_⟩
  unfold sPar2
  walk_at "pw"
  refine ⟨_, _, ⟨rfl, rfl⟩, by omega, by omega, ?_⟩
  rw [show ((p.length : Int) + 1).toNat = p.length + 1 by omega]
  refine forW_rng (fun i env => ∃ (x' : Str) (j' : Nat) (j7 j21 : Option T), env = [none, some (.st .bx), some (.st (enc w)), some (.st (.lst (w.names.map D.str))), some (.st (.str m)), some (.st (.int k)), some (.st (.dt es)), j7, none, none, none, none, none, none, none, none, some (.st (.str x)), some (.st (.int j)), some (.st (.tup (p.map tieD))), some (.st (.str x')), some (.st (.int j')), j21, none, none, none, none, none] ∧ x' ∈ w.names ∧ Chain w x' j' (p.drop i) m k) ⟨x, j, _, _, rfl, hx, hc⟩ ?_ ?_
  · rintro i env N hi ⟨x', j', j7, j21, rfl, hx', hc'⟩ hN
    refine ⟨_, setT_nm _ _ _, ?_⟩
    walk_at "pw"
    refine slk x' m j' k hx' hm (by omega) fun o d ho => ?_
    have := slack_chain h he hc' ho
    subst this
    unfold encR
    walk_at "pw"
    refine fNeA_same (good_int 0) (by omega) ⟨_, rfl, ?_⟩
    rw [if_neg (by simp)]
    by_cases hip : i < p.length
    · rw [if_pos (by omega)]
      have ei : L2.atI (p.map tieD) (i : Int) = some (tieD p[i]) := by rw [atI_get, List.getElem?_map, List.getElem?_eq_getElem hip]; rfl
      rw [ei]
      rw [List.drop_eq_getElem_cons hip] at hc'
      cases hc' with
      | @cons t p' y jj kk ht est hc2 =>
        have h0 := h.cnt _ ht
        refine ⟨_, rfl, fGet_known (hes _ ht) ?_⟩
        unfold knownD
        walk_at "pw"
        refine fGet_known (hes _ ht) ?_
        unfold knownD
        walk_at "pw"
        rw [show (j' : Int) + p[i].count = ((j' + p[i].count.toNat : Nat) : Int) by omega]
        exact hN _ ⟨_, _, _, _, rfl, (h.tie ht).2, hc2⟩
    · rw [if_neg (by omega)]
      refine hN _ ⟨x', j', _, _, rfl, hx', ?_⟩
      rw [List.drop_of_length_le (by omega)] at hc' ⊢
      exact hc'
  rintro env ⟨x', j', j7, j21, rfl, hx', hc'⟩
  rw [List.drop_of_length_le (by omega)] at hc'
  cases hc'
  walk_at "pw"
  have gm : Good 1 (.tup [.str m, .int k]) := good_tup fun d hd => by
    rcases List.mem_cons.mp hd with rfl | hd
    · exact good_str (h.oks m hm)
    · rw [List.mem_singleton.mp hd]; exact good_int _
  refine ⟨by omega, by omega, fNeA_same gm (by omega) ⟨_, rfl, ?_⟩⟩
  rw [if_neg (by simp)]
  refine ⟨w, k + 1, [], by simp [T.erase, eraseM], h, he, by omega, ?_⟩
  rw [sol_nil]
  refine ⟨w, rfl, h, ?_⟩
  refine ⟨w, m, k, rfl, h, he, hm, by omega, ?_⟩
  walk_at "pw"
  refine forW_inv tieD (fun pre env => ∃ (j10 j23 j24 j25 : Option T), env = [none, some (.st .bx), some (.st (enc w)), some (.st (.lst (w.names.map D.str))), some (.st (.str m)), some (.st (.int k)), some (.st (.dt es)), j7, some (.st (tabD w.names (k + 1) w.st)), some (.st (encTimes w)), j10, none, none, none, none, none, some (.st (.str x)), some (.st (.int j)), some (.st (.tup (p.map tieD))), some (.st (.str m)), some (.st (.int k)), j21, none, j23, j24, j25, none]) ⟨_, _, _, _, rfl⟩ ?_ ?_
  · rintro pre t post env N e ⟨j10, j23, j24, j25, rfl⟩ hN
    have htf : t ∈ w.ties.filter (w.wt m k) := by rw [e]; simp
    obtain ⟨ht, hwt⟩ := List.mem_filter.mp htf
    obtain ⟨e1, e2, e3⟩ := Wk.wt_iff.mp hwt
    have h0 := h.cnt t ht
    have hs := (h.tie ht).1
    refine ⟨_, setT_nm _ _ _, ?_⟩
    walk_at "pw"
    refine fGet_known (hes _ ht) ?_
    unfold knownD
    walk_at "pw"
    rw [show (k : Int) - t.count = ((k - t.count.toNat : Nat) : Int) by omega]
    refine slk t.start m (k - t.count.toNat) k hs hm (by omega) fun o d ho => ?_
    have hch : Chain w t.start (k - t.count.toNat) [t] m k := .cons' (j' := k) ht (by rw [e1]; exact e3.symm) (by rw [e1]; exact .nil _ _) (by omega) rfl
    have := slack_chain h he hch ho
    subst this
    unfold encR
    walk_at "pw"
    refine fNeA_same (good_int 0) (by omega) ⟨_, rfl, ?_⟩
    rw [if_neg (by simp)]
    refine ⟨⟨_, rfl⟩, fIndex_strs hs (fGet_tabD hs (fGet_rowD rfl (by omega) ?_))⟩
    unfold encTimes at hN ⊢
    walk_at "pw"
    refine ⟨_, look_times h hs, ?_⟩
    walk_at "pw"
    refine ⟨⟨_, rfl⟩, fIndex_strs hm (fGet_tabD hm (fGet_rowD rfl (by omega) ?_))⟩
    rw [e3]
    refine fNeA_same (good_int _) (by omega) ⟨_, rfl, ?_⟩
    rw [if_neg (by simp)]
    exact hN _ ⟨_, _, _, _, rfl⟩
  · rintro env ⟨j10, j23, j24, j25, rfl⟩
    walk_at "pw"
    have npos := h.npos
    refine ⟨by omega, fun i1 i10 i11 => ⟨by omega, fun e1 e10 e11 => ⟨by omega, fun la l0 l1 => ?_⟩⟩⟩
    obtain ⟨i1, rfl⟩ := Int.eq_ofNat_of_zero_le i10
    obtain ⟨e1, rfl⟩ := Int.eq_ofNat_of_zero_le e10
    have hi1 : i1 < w.names.length := by omega
    obtain ⟨x0, hx0, ex0⟩ : ∃ x0, x0 ∈ w.names ∧ ixOf w.names x0 = i1 := ⟨w.names[i1], List.getElem_mem hi1, ixOf_getElem h.nd hi1⟩
    subst ex0
    generalize hla : 1 + la = late
    have hl0 : 0 ≤ late := by omega
    unfold wDispT
    walk_at "pw"
    refine ⟨by omega, _, rfl, ?_⟩
    refine ⟨w, k + 1, [([.inl (ixOf w.names x0 : Int), .inl (e1 : Int)], late)], by simp [T.erase, eraseM], h, he, by omega, ?_⟩
    have hL : ∀ x ∈ w.names, ∀ k, (fun p k : Nat => (look [([Sum.inl (ixOf w.names x0 : Int), (Sum.inl (e1 : Int) : Key)], late)] [.inl (p : Int), .inl (k : Int)]).getD 0) (ixOf w.names x) k = if x = x0 ∧ k = e1 then late else 0 := by
      intro x hx k
      unfold look
      by_cases q : x = x0 ∧ k = e1
      · obtain ⟨rfl, rfl⟩ := q
        simp
      · rw [if_neg q]
        have : ¬ ([Sum.inl (ixOf w.names x0 : Int), (Sum.inl (e1 : Int) : Key)] = [.inl (ixOf w.names x : Int), .inl (k : Int)]) := by
          intro z
          have z1 := Sum.inl.inj (List.cons.inj z).1
          have z2 := Sum.inl.inj (List.cons.inj (List.cons.inj z).2).1
          exact q ⟨ixOf_inj hx hx0 (by omega), by omega⟩
        simp only [List.find?_cons, this, decide_false, List.find?_nil, Option.map_none, Option.getD_none]
    have hS := Wk.sol_rec h he (w.combL fun p k => (look [([Sum.inl (ixOf w.names x0 : Int), (Sum.inl (e1 : Int) : Key)], late)] [.inl (p : Int), .inl (k : Int)]).getD 0)
    generalize w.sol (w.combL fun p k => (look [([Sum.inl (ixOf w.names x0 : Int), (Sum.inl (e1 : Int) : Key)], late)] [.inl (p : Int), .inl (k : Int)]).getD 0) = S at hS ⊢
    have key := fun {y : Str} (hy : y ∈ w.names) {k : Nat} (hk : e1 ≤ k) {o : Option Int} (ho : IsSl w x0 e1 y k o) => late_slack h he hl0 hx0 hL hS hy hk ho
    refine ⟨by omega, by omega, ?_⟩
    rw [range_names h.nd]
    refine forW_inv (fun x => D.int (ixOf w.names x : Int)) (fun pre env => ∃ (j15 j21 j22 j26 : Option T), env = [none, some (.st .bx), some (.st (enc w)), some (.st (.lst (w.names.map D.str))), some (.st (.str m)), some (.st (.int k)), some (.st (.dt es)), j7, some (.st (tabD w.names (k + 1) w.st)), some (.st (encTimes w)), j10, some (.st (.int (ixOf w.names x0))), some (.st (.int e1)), some (.st (.int late)), some (.st (tabD w.names (k + 1) S)), j15, some (.st (.str x)), some (.st (.int j)), some (.st (.tup (p.map tieD))), some (.st (.str m)), some (.st (.int k)), j21, j22, j23, j24, j25, j26]) ⟨_, _, _, _, rfl⟩ ?_ ?_
    · rintro pre y post env N e ⟨j15, j21, j22, j26, rfl⟩ hN
      have hy : y ∈ w.names := by rw [e]; simp
      refine ⟨_, setT_nm _ _ _, ?_⟩
      walk_at "pw"
      refine ⟨_, _, ⟨rfl, rfl⟩, ⟨by omega, by omega, by omega, by omega⟩, ?_⟩
      unfold rngD
      refine forW_rng2 (fun i env => ∃ (j21 j22 j26 : Option T), env = [none, some (.st .bx), some (.st (enc w)), some (.st (.lst (w.names.map D.str))), some (.st (.str m)), some (.st (.int k)), some (.st (.dt es)), j7, some (.st (tabD w.names (k + 1) w.st)), some (.st (encTimes w)), j10, some (.st (.int (ixOf w.names x0))), some (.st (.int e1)), some (.st (.int late)), some (.st (tabD w.names (k + 1) S)), some (.st (.int (ixOf w.names y))), some (.st (.str x)), some (.st (.int j)), some (.st (.tup (p.map tieD))), some (.st (.str m)), some (.st (.int k)), j21, j22, j23, j24, j25, j26]) ⟨_, _, _, rfl⟩ ?_ ?_
      · rintro i env N2 hi ⟨j21, j22, j26, rfl⟩ hN2
        refine ⟨_, setT_nm _ _ _, ?_⟩
        rw [show (e1 : Int) + (i : Int) = ((e1 + i : Nat) : Int) by omega]
        walk_at "pw"
        have a0 : L2.atI (w.names.map D.str) (ixOf w.names x0 : Int) = some (.str x0) := atI_tab hx0
        have a1 : L2.atI (w.names.map D.str) (ixOf w.names y : Int) = some (.str y) := atI_tab hy
        refine ⟨_, a0, _, a1, slk x0 y e1 (e1 + i) hx0 hy (by omega) fun o d ho => ?_⟩
        have hk := key hy (Nat.le_add_right e1 i) ho
        walk_at "pw"
        cases o with
        | none =>
          unfold encR
          rw [fIsN_non]
          refine ⟨_, rfl, ?_⟩
          rw [if_pos rfl]
          refine fGet_tabD hy (fGet_rowD rfl (by omega) (fGet_tabD hy (fGet_rowD rfl (by omega) ?_)))
          walk_at "pw"
          have hk : S y (e1 + i) - w.st y (e1 + i) = 0 := hk
          rw [hk]
          refine fNeA_same (good_int _) (by omega) ⟨_, rfl, ?_⟩
          rw [if_neg (by simp)]
          exact hN2 _ ⟨_, _, _, rfl⟩
        | some v =>
          unfold encR
          rw [fIsN_int]
          refine ⟨_, rfl, ?_⟩
          rw [if_neg (by simp)]
          walk_at "pw"
          refine fGet_tabD hy (fGet_rowD rfl (by omega) (fGet_tabD hy (fGet_rowD rfl (by omega) ?_)))
          walk_at "pw"
          have hk : S y (e1 + i) - w.st y (e1 + i) = max 0 (late - v) := hk
          rw [hk]
          refine fNeA_same (good_int _) (by omega) ⟨_, rfl, ?_⟩
          rw [if_neg (by simp)]
          exact hN2 _ ⟨_, _, _, rfl⟩
      · rintro env ⟨j21, j22, j26, rfl⟩
        exact hN _ ⟨_, _, _, _, rfl⟩
    · rintro env ⟨j15, j21, j22, j26, rfl⟩
      walk_at "pw"
end Pw
namespace Pw
open PySem PySem.Spec PyProof.Rows L2
def topS (i : Nat) : Stmt := PySem.Challenge.pw_binworks_k74_whole_slack_causes_and_late.main.body.getD i (.Pass ⟨0, 0, 0, 0⟩)
abbrev s_names_of : Stmt := topS 6
abbrev s_times_of : Stmt := topS 7
abbrev s_ties_of : Stmt := topS 8
abbrev s_leaving_of : Stmt := topS 9
abbrev s_coming_of : Stmt := topS 10
abbrev s_order_or_ring : Stmt := topS 12
abbrev s_ring_among : Stmt := topS 13
abbrev s_goes_on : Stmt := topS 14
abbrev s_on_ring : Stmt := topS 15
abbrev s_reached_from : Stmt := topS 17
abbrev s_halls : Stmt := topS 18
abbrev s_is_behind : Stmt := topS 19
abbrev s_is_closed : Stmt := topS 20
abbrev s_has_ring : Stmt := topS 21
abbrev s_check_endless : Stmt := topS 23
abbrev s_check_closed : Stmt := topS 26
abbrev s_check_counts : Stmt := topS 27
abbrev s_inner_order : Stmt := topS 28
abbrev s_round_order : Stmt := topS 29
abbrev s_rounds : Stmt := topS 30
abbrev s_longest_times : Stmt := topS 33
abbrev s_slack : Stmt := topS 34
abbrev s_longest_path : Stmt := topS 35
abbrev s_cause_of : Stmt := topS 36
abbrev s_waited_ties : Stmt := topS 37
abbrev s_ties_waited : Stmt := topS 38
abbrev s_law_digits : Stmt := topS 40
abbrev s_law_box : Stmt := topS 41
abbrev s_law_take : Stmt := topS 42
abbrev s_law_pick : Stmt := topS 43
abbrev s_law_word : Stmt := topS 44
abbrev s_law_names : Stmt := topS 45
abbrev s_law_machines : Stmt := topS 46
abbrev s_law_works : Stmt := topS 47
abbrev s_law_lively : Stmt := topS 48
abbrev s_law_closed : Stmt := topS 49
abbrev s_law_ties : Stmt := topS 50
abbrev s_law_name_list : Stmt := topS 51
abbrev s_law_times : Stmt := topS 52
abbrev s_law_known : Stmt := topS 53
abbrev s_law_rounds : Stmt := topS 54
abbrev s_law : Stmt := topS 55
section
variable {P : Program} {w : World} {K : PySem.W.Frag} {mg : Str → Option Value} {base : Heap}
theorem sc_law_digits : FnScope ["cell", "count", "number", "row", "k", "mixed"] ["cell", "count"] (defScope s_law_digits) := ⟨rfl, rfl, rfl, by decide +kernel, rfl, by decide +kernel, by decide +kernel⟩
theorem ok_law_digits {f : Addr} {fd : FuncData} (F : Fun K "_law_digits" "_law_digits" s_law_digits f fd) (hm : mg "_law_digits" = some (.ref f)) (B : Bi mg)  : Callee P w K mg base 1 "_law_digits" sp_law_digits := by
  refine ⟨f, fd, ["cell", "count"], fn_pw (wS := w_law_digits) F sc_law_digits l_law_digits (fun cdv A outer s H E hr => ?_) p_law_digits, hm, F.kp, F.binds fun _ _ _ _ _ _ us hl => match us, hl with | [_, _], _ => rfl⟩
  have hu := hr.units
  have nd := sc_law_digits.nd
  have hK : (cxOf CX0 P w K mg base ["cell", "count", "number", "row", "k", "mixed"] "_law_digits" (defScope s_law_digits) f cdv A outer s H E).nox.K = K := rfl
  have h : PSsw K (cxOf CX0 P w K mg base ["cell", "count", "number", "row", "k", "mixed"] "_law_digits" (defScope s_law_digits) f cdv A outer s H E).nox (defBody s_law_digits) _ w_law_digits := (ss_cons (y_asg 2 nd (x_v 0))
      (ss_cons (y_if (t_lt (x_v 2) x_i) (ss_one (y_asg 2 nd (x_sub (x_sub x_i x_i) (x_v 2)))) ss_nil)
      (ss_cons (y_new 3 nd (n_lst a_nil))
      (ss_cons (y_if (t_ge (x_v 2) (x_pow x_i x_i)) (ss_cons (y_for PassesOwn.never rfl (i_rg1 B (a_cons (x_v 1) a_nil)) (g_nm 4 nd) (ss_cons (y_app 3 hK (x_mod (x_int B (a_cons (x_v 2) a_nil)) x_i))
      (ss_cons (y_asg 2 nd (x_div (x_v 2) x_i))
      (ss_one (y_if (t_eq hK hu (x_v 2) x_i) (ss_one y_brk) ss_nil)))))
      (ss_frz 3 (ss_one (y_ret (x_v 3))))) ss_nil)
      (ss_cons (y_for PassesOwn.never rfl (i_rg1 B (a_cons (x_v 1) a_nil)) (g_nm 4 nd) (ss_cons (y_asg 5 nd (x_mod (x_int B (a_cons (x_mul (x_add hK (x_add hK (x_v 2) (x_mul x_i (x_v 4))) x_i) x_i) a_nil)) x_i))
      (ss_cons (y_asg 5 nd (x_mod (x_int B (a_cons (x_add hK (x_add hK (x_mul (x_v 5) x_i) (x_mul x_i (x_v 4))) x_i) a_nil)) x_i))
      (ss_one (y_app 3 hK (x_mod (x_int B (a_cons (x_div (x_v 5) x_i) a_nil)) x_i))))))
      (ss_frz 3 (ss_one (y_ret (x_v 3)))))))))
  exact ⟨_, h.pe, h.so⟩
theorem sc_law_box : FnScope ["script", "row", "cell"] ["script"] (defScope s_law_box) := ⟨rfl, rfl, rfl, by decide +kernel, rfl, by decide +kernel, by decide +kernel⟩
theorem ok_law_box {f : Addr} {fd : FuncData} (F : Fun K "_law_box" "_law_box" s_law_box f fd) (hm : mg "_law_box" = some (.ref f)) (B : Bi mg) (c_law_digits : Callee P w K mg base 1 "_law_digits" sp_law_digits) : CalleeB P w K mg base 2 "_law_box" := by
  refine ⟨f, fd, ["script"], fn_box (wS := w_law_box) F sc_law_box (fun cdv A outer s H E hr => ?_) p_law_box, hm, F.kp, F.binds fun _ _ _ _ _ _ us hl => match us, hl with | [_], _ => rfl⟩
  have hu := hr.units
  have nd := sc_law_box.nd
  have hK : (cxOf CX0 P w K mg base ["script", "row", "cell"] "_law_box" (defScope s_law_box) f cdv A outer s H E).nox.K = K := rfl
  have h : PSsw K (cxOf CX0 P w K mg base ["script", "row", "cell"] "_law_box" (defScope s_law_box) f cdv A outer s H E).nox (defBody s_law_box) _ w_law_box := (ss_cons (y_asg 1 nd (x_fz (n_lst a_nil)))
      (ss_cons (y_for PassesOwn.never rfl (i_seq hK (x_v 0)) (g_nm 2 nd) (ss_one (y_asg 1 nd (x_add hK (x_v 1) (x_call hK c_law_digits hr (by decide) (a_cons (x_v 2) (a_cons x_i a_nil)))))))
      (ss_cons (y_if (t_eq hK hu (x_len B hK (a_cons (x_v 1) a_nil)) x_i) (ss_one (y_asg 1 nd (x_fz (n_lst (a_cons x_i (a_cons x_i (a_cons x_i (a_cons x_i (a_cons x_i (a_cons x_i (a_cons x_i a_nil))))))))))) ss_nil)
      (ss_one (y_retV (n_disp (d_cons x_s (x_v 1) (d_cons x_s x_i d_nil))))))))
  exact ⟨_, h.pe, h.so⟩
theorem sc_law_pick : FnScope ["box", "row"] ["box", "row"] (defScope s_law_pick) := ⟨rfl, rfl, rfl, by decide +kernel, rfl, by decide +kernel, by decide +kernel⟩
theorem ok_law_pick {f : Addr} {fd : FuncData} (F : Fun K "_law_pick" "_law_pick" s_law_pick f fd) (hm : mg "_law_pick" = some (.ref f)) (B : Bi mg) (c_law_take : Callee P w K mg base 1 "_law_take" sp_law_take) : Callee P w K mg base 2 "_law_pick" sp_law_pick := by
  refine ⟨f, fd, ["box", "row"], fn_pw (wS := w_law_pick) F sc_law_pick l_law_pick (fun cdv A outer s H E hr => ?_) p_law_pick, hm, F.kp, F.binds fun _ _ _ _ _ _ us hl => match us, hl with | [_, _], _ => rfl⟩
  have hu := hr.units
  have nd := sc_law_pick.nd
  have hK : (cxOf CX0 P w K mg base ["box", "row"] "_law_pick" (defScope s_law_pick) f cdv A outer s H E).nox.K = K := rfl
  have h : PSsw K (cxOf CX0 P w K mg base ["box", "row"] "_law_pick" (defScope s_law_pick) f cdv A outer s H E).nox (defBody s_law_pick) _ w_law_pick := (ss_one (y_ret (x_ix hK hu (x_v 1) (x_call hK c_law_take hr (by decide) (a_cons (x_v 0) (a_cons (x_len B hK (a_cons (x_v 1) a_nil)) a_nil))))))
  exact ⟨_, h.pe, h.so⟩
theorem sc_law_word : FnScope ["box", "size", "k"] ["box", "size"] (defScope s_law_word) := ⟨rfl, rfl, rfl, by decide +kernel, rfl, by decide +kernel, by decide +kernel⟩
theorem ok_law_word {f : Addr} {fd : FuncData} (F : Fun K "_law_word" "_law_word" s_law_word f fd) (hm : mg "_law_word" = some (.ref f)) (B : Bi mg) (c_law_take : Callee P w K mg base 1 "_law_take" sp_law_take) : Callee P w K mg base 2 "_law_word" sp_law_word := by
  refine ⟨f, fd, ["box", "size"], fn_pw (wS := w_law_word) F sc_law_word l_law_word (fun cdv A outer s H E hr => ?_) p_law_word, hm, F.kp, F.binds fun _ _ _ _ _ _ us hl => match us, hl with | [_, _], _ => rfl⟩
  have hu := hr.units
  have nd := sc_law_word.nd
  have hK : (cxOf CX0 P w K mg base ["box", "size", "k"] "_law_word" (defScope s_law_word) f cdv A outer s H E).nox.K = K := rfl
  have h : PSsw K (cxOf CX0 P w K mg base ["box", "size", "k"] "_law_word" (defScope s_law_word) f cdv A outer s H E).nox (defBody s_law_word) _ w_law_word := (ss_one (y_ret (x_join hK x_s (x_fz (n_lc [("k", 2)] rfl nd (i_rg1 B (a_cons (x_v 1) a_nil)) (fun _ _ _ _ _ => by exact (g_nm 2 nd)) (fun _ _ _ _ _ => by exact ts_nil) (fun _ _ _ _ _ => by exact (n_nw (x_ix hK hu x_s (x_call hK c_law_take hr (by decide) (a_cons (x_v 0) (a_cons x_i a_nil)))))))))))
  exact ⟨_, h.pe, h.so⟩
theorem sc_law_names : FnScope ["box", "many", "base", "place", "first", "unlike", "names", "k", "words", "at", "letter", "tail"] ["box", "many"] (defScope s_law_names) := ⟨rfl, rfl, rfl, by decide +kernel, rfl, by decide +kernel, by decide +kernel⟩
theorem ok_law_names {f : Addr} {fd : FuncData} (F : Fun K "_law_names" "_law_names" s_law_names f fd) (hm : mg "_law_names" = some (.ref f)) (B : Bi mg) (c_law_take : Callee P w K mg base 1 "_law_take" sp_law_take) (c_law_pick : Callee P w K mg base 2 "_law_pick" sp_law_pick) (c_law_word : Callee P w K mg base 2 "_law_word" sp_law_word) : Callee P w K mg base 3 "_law_names" sp_law_names := by
  refine ⟨f, fd, ["box", "many"], fn_pw (wS := w_law_names) F sc_law_names l_law_names (fun cdv A outer s H E hr => ?_) p_law_names, hm, F.kp, F.binds fun _ _ _ _ _ _ us hl => match us, hl with | [_, _], _ => rfl⟩
  have hu := hr.units
  have nd := sc_law_names.nd
  have hK : (cxOf CX0 P w K mg base ["box", "many", "base", "place", "first", "unlike", "names", "k", "words", "at", "letter", "tail"] "_law_names" (defScope s_law_names) f cdv A outer s H E).nox.K = K := rfl
  have h : PSsw K (cxOf CX0 P w K mg base ["box", "many", "base", "place", "first", "unlike", "names", "k", "words", "at", "letter", "tail"] "_law_names" (defScope s_law_names) f cdv A outer s H E).nox (defBody s_law_names) _ w_law_names := (ss_cons (y_if (t_bop (w_and (t_lt (x_v 1) x_i) (w_and1 (t_eq hK hu (x_call hK c_law_take hr (by decide) (a_cons (x_v 0) (a_cons x_i a_nil))) x_i)))) (ss_cons (y_asg 8 nd x_s)
      (ss_cons (y_asg 8 nd (x_add hK (x_split (x_v 8) x_s) (x_fz (n_lst (a_cons x_s (a_cons x_s (a_cons x_s (a_cons x_s (a_cons x_s (a_cons x_s (a_cons x_s (a_cons x_s (a_cons x_s (a_cons x_s (a_cons x_s (a_cons x_s a_nil))))))))))))))))
      (ss_cons (y_asg 9 nd (x_call hK c_law_pick hr (by decide) (a_cons (x_v 0) (a_cons (x_fz (n_lst (a_cons x_i (a_cons x_i (a_cons (x_call hK c_law_take hr (by decide) (a_cons (x_v 0) (a_cons (x_add hK (x_sub (x_len B hK (a_cons (x_v 8) a_nil)) (x_v 1)) x_i) a_nil))) a_nil))))) a_nil))))
      (ss_one (y_ret (x_sl hK (x_v 8) (o_so (x_v 9)) (o_so (x_add hK (x_v 9) (x_v 1))))))))) ss_nil)
      (ss_cons (y_asg 2 nd (x_call hK c_law_word hr (by decide) (a_cons (x_v 0) (a_cons (x_call hK c_law_take hr (by decide) (a_cons (x_v 0) (a_cons x_i a_nil))) a_nil))))
      (ss_cons (y_asg 3 nd (x_call hK c_law_take hr (by decide) (a_cons (x_v 0) (a_cons (x_add hK (x_len B hK (a_cons (x_v 2) a_nil)) x_i) a_nil))))
      (ss_cons (y_asg 4 nd (x_call hK c_law_take hr (by decide) (a_cons (x_v 0) (a_cons x_i a_nil))))
      (ss_cons (y_asg 5 nd (x_call hK c_law_take hr (by decide) (a_cons (x_v 0) (a_cons x_i a_nil))))
      (ss_cons (y_new 6 nd (n_lst a_nil))
      (ss_cons (y_for PassesOwn.never rfl (i_rg1 B (a_cons (x_v 1) a_nil)) (g_nm 7 nd) (ss_cons (y_asg 10 nd (x_ix hK hu x_s (x_mod (x_int B (a_cons (x_add hK (x_v 4) (x_mul x_i (x_v 7))) a_nil)) x_i)))
      (ss_cons (y_asg 11 nd x_s)
      (ss_cons (y_if (t_eq hK hu (x_v 5) x_i) (ss_one (y_asg 11 nd (x_call hK c_law_word hr (by decide) (a_cons (x_v 0) (a_cons (x_call hK c_law_take hr (by decide) (a_cons (x_v 0) (a_cons x_i a_nil))) a_nil))))) ss_nil)
      (ss_one (y_app 6 hK (x_add hK (x_add hK (x_add hK (x_sl hK (x_v 2) o_no (o_so (x_v 3))) (x_v 10)) (x_sl hK (x_v 2) (o_so (x_v 3)) o_no)) (x_v 11))))))))
      (ss_one (y_ret (x_sortS B hK (a_cons (x_v 6) a_nil)))))))))))
  exact ⟨_, h.pe, h.so⟩
theorem sc_law_machines : FnScope ["box", "many", "rows", "name"] ["box", "many"] (defScope s_law_machines) := ⟨rfl, rfl, rfl, by decide +kernel, rfl, by decide +kernel, by decide +kernel⟩
theorem ok_law_machines {f : Addr} {fd : FuncData} (F : Fun K "_law_machines" "_law_machines" s_law_machines f fd) (hm : mg "_law_machines" = some (.ref f)) (B : Bi mg) (c_law_names : Callee P w K mg base 3 "_law_names" sp_law_names) (c_law_take : Callee P w K mg base 1 "_law_take" sp_law_take) (c_law_pick : Callee P w K mg base 2 "_law_pick" sp_law_pick) : Callee P w K mg base 4 "_law_machines" sp_law_machines := by
  refine ⟨f, fd, ["box", "many"], fn_pw (wS := w_law_machines) F sc_law_machines l_law_machines (fun cdv A outer s H E hr => ?_) p_law_machines, hm, F.kp, F.binds fun _ _ _ _ _ _ us hl => match us, hl with | [_, _], _ => rfl⟩
  have hu := hr.units
  have nd := sc_law_machines.nd
  have hK : (cxOf CX0 P w K mg base ["box", "many", "rows", "name"] "_law_machines" (defScope s_law_machines) f cdv A outer s H E).nox.K = K := rfl
  have h : PSsw K (cxOf CX0 P w K mg base ["box", "many", "rows", "name"] "_law_machines" (defScope s_law_machines) f cdv A outer s H E).nox (defBody s_law_machines) _ w_law_machines := (ss_cons (y_new 2 nd (n_lst a_nil))
      (ss_cons (y_for PassesOwn.never rfl (i_seq hK (x_call hK c_law_names hr (by decide) (a_cons (x_v 0) (a_cons (x_v 1) a_nil)))) (g_nm 3 nd) (ss_one (y_app 2 hK (x_tup (a_cons (x_v 3) (a_cons (x_call hK c_law_pick hr (by decide) (a_cons (x_v 0) (a_cons (x_fz (n_lst (a_cons x_i (a_cons x_i (a_cons (x_add hK x_i (x_call hK c_law_take hr (by decide) (a_cons (x_v 0) (a_cons x_i a_nil)))) (a_cons (x_add hK x_i (x_call hK c_law_take hr (by decide) (a_cons (x_v 0) (a_cons x_i a_nil)))) (a_cons (x_call hK c_law_take hr (by decide) (a_cons (x_v 0) (a_cons x_i a_nil))) a_nil))))))) a_nil))) a_nil))))))
      (ss_one (y_ret (x_tuple B hK (a_cons (x_v 2) a_nil))))))
  exact ⟨_, h.pe, h.so⟩
theorem sc_law_works : FnScope ["box", "most", "bins", "great", "machines", "names", "rows", "name", "stock", "room", "machine"] ["box", "most", "bins", "great"] (defScope s_law_works) := ⟨rfl, rfl, rfl, by decide +kernel, rfl, by decide +kernel, by decide +kernel⟩
theorem ok_law_works {f : Addr} {fd : FuncData} (F : Fun K "_law_works" "_law_works" s_law_works f fd) (hm : mg "_law_works" = some (.ref f)) (B : Bi mg) (c_law_take : Callee P w K mg base 1 "_law_take" sp_law_take) (c_law_machines : Callee P w K mg base 4 "_law_machines" sp_law_machines) (c_law_names : Callee P w K mg base 3 "_law_names" sp_law_names) (c_law_pick : Callee P w K mg base 2 "_law_pick" sp_law_pick) : Callee P w K mg base 5 "_law_works" sp_law_works := by
  refine ⟨f, fd, ["box", "most", "bins", "great"], fn_pw (wS := w_law_works) F sc_law_works l_law_works (fun cdv A outer s H E hr => ?_) p_law_works, hm, F.kp, F.binds fun _ _ _ _ _ _ us hl => match us, hl with | [_, _, _, _], _ => rfl⟩
  have hu := hr.units
  have nd := sc_law_works.nd
  have hK : (cxOf CX0 P w K mg base ["box", "most", "bins", "great", "machines", "names", "rows", "name", "stock", "room", "machine"] "_law_works" (defScope s_law_works) f cdv A outer s H E).nox.K = K := rfl
  have h : PSsw K (cxOf CX0 P w K mg base ["box", "most", "bins", "great", "machines", "names", "rows", "name", "stock", "room", "machine"] "_law_works" (defScope s_law_works) f cdv A outer s H E).nox (defBody s_law_works) _ w_law_works := (ss_cons (y_asg 4 nd (x_call hK c_law_machines hr (by decide) (a_cons (x_v 0) (a_cons (x_add hK x_i (x_call hK c_law_take hr (by decide) (a_cons (x_v 0) (a_cons (x_v 1) a_nil)))) a_nil))))
      (ss_cons (y_asgLc 5 [("machine", 10)] rfl nd (i_seq hK (x_v 4)) (fun _ _ _ _ _ => by exact (g_nm 10 nd)) (fun _ _ _ _ _ => by exact ts_nil) (fun _ _ _ _ _ => by exact (n_nw (x_ix hK hu (x_v 10) x_i))))
      (ss_cons (y_new 6 nd (n_lst a_nil))
      (ss_cons (y_for PassesOwn.never rfl (i_seq hK (x_call hK c_law_names hr (by decide) (a_cons (x_v 0) (a_cons (x_call hK c_law_take hr (by decide) (a_cons (x_v 0) (a_cons (x_add hK (x_v 2) x_i) a_nil))) a_nil)))) (g_nm 7 nd) (ss_cons (y_asg 8 nd (x_call hK c_law_pick hr (by decide) (a_cons (x_v 0) (a_cons (x_fz (n_lst (a_cons x_i (a_cons x_i (a_cons x_i (a_cons x_i (a_cons x_i (a_cons (x_call hK c_law_take hr (by decide) (a_cons (x_v 0) (a_cons (x_v 3) a_nil))) a_nil)))))))) a_nil))))
      (ss_cons (y_asg 9 nd (x_call hK c_law_pick hr (by decide) (a_cons (x_v 0) (a_cons (x_fz (n_lst (a_cons x_n (a_cons x_n (a_cons (x_max B hK rfl (a_cons (x_v 8) (a_cons x_i a_nil))) (a_cons (x_add hK (x_max B hK rfl (a_cons (x_v 8) (a_cons x_i a_nil))) (x_call hK c_law_take hr (by decide) (a_cons (x_v 0) (a_cons x_i a_nil)))) a_nil)))))) a_nil))))
      (ss_one (y_app 6 hK (x_tup (a_cons (x_v 7) (a_cons (x_call hK c_law_pick hr (by decide) (a_cons (x_v 0) (a_cons (x_v 5) a_nil))) (a_cons (x_call hK c_law_pick hr (by decide) (a_cons (x_v 0) (a_cons (x_v 5) a_nil))) (a_cons (x_v 8) (a_cons (x_v 9) a_nil)))))))))))
      (ss_one (y_ret (x_tup (a_cons (x_v 4) (a_cons (x_tuple B hK (a_cons (x_v 6) a_nil)) a_nil)))))))))
  exact ⟨_, h.pe, h.so⟩
theorem sc_law_lively : FnScope ["box", "works", "left", "order", "rows", "name", "start", "goal", "stock", "room", "ahead", "machine"] ["box", "works"] (defScope s_law_lively) := ⟨rfl, rfl, rfl, by decide +kernel, rfl, by decide +kernel, by decide +kernel⟩
theorem ok_law_lively {f : Addr} {fd : FuncData} (F : Fun K "_law_lively" "_law_lively" s_law_lively f fd) (hm : mg "_law_lively" = some (.ref f)) (B : Bi mg) (c_law_take : Callee P w K mg base 1 "_law_take" sp_law_take) : Callee P w K mg base 2 "_law_lively" sp_law_lively := by
  refine ⟨f, fd, ["box", "works"], fn_pw (wS := w_law_lively) F sc_law_lively l_law_lively (fun cdv A outer s H E hr => ?_) p_law_lively, hm, F.kp, F.binds fun _ _ _ _ _ _ us hl => match us, hl with | [_, _], _ => rfl⟩
  have hu := hr.units
  have nd := sc_law_lively.nd
  have hK : (cxOf CX0 P w K mg base ["box", "works", "left", "order", "rows", "name", "start", "goal", "stock", "room", "ahead", "machine"] "_law_lively" (defScope s_law_lively) f cdv A outer s H E).nox.K = K := rfl
  have h : PSsw K (cxOf CX0 P w K mg base ["box", "works", "left", "order", "rows", "name", "start", "goal", "stock", "room", "ahead", "machine"] "_law_lively" (defScope s_law_lively) f cdv A outer s H E).nox (defBody s_law_lively) _ w_law_lively := (ss_cons (y_newLc 2 [("machine", 11)] rfl nd (i_seq hK (x_ix hK hu (x_v 1) x_i)) (fun _ _ _ _ _ => by exact (g_nm 11 nd)) (fun _ _ _ _ _ => by exact ts_nil) (fun _ _ _ _ _ => by exact (n_nw (x_ix hK hu (x_v 11) x_i))))
      (ss_cons (y_new 3 nd (n_lst a_nil))
      (ss_cons (y_while PassesOwn.never (t_gt (x_len B hK (a_cons (x_v 2) a_nil)) x_i) (ss_one (y_appPop 3 2 hK (by decide) (x_call hK c_law_take hr (by decide) (a_cons (x_v 0) (a_cons (x_len B hK (a_cons (x_v 2) a_nil)) a_nil))))))
      (ss_cons (y_new 4 nd (n_lst a_nil))
      (ss_cons (y_for PassesOwn.never rfl (i_seq hK (x_ix hK hu (x_v 1) x_i)) (g_tp hK rfl (gs_cons (g_nm 5 nd) (gs_cons (g_nm 6 nd) (gs_cons (g_nm 7 nd) (gs_cons (g_nm 8 nd) (gs_cons (g_nm 9 nd) gs_nil)))))) (ss_cons (y_asg 10 nd (x_sub (x_index hK (x_v 3) (a_cons (x_v 6) a_nil)) (x_index hK (x_v 3) (a_cons (x_v 7) a_nil))))
      (ss_cons (y_if (t_ge (x_v 10) x_i) (ss_one (y_asg 8 nd (x_max B hK rfl (a_cons (x_v 8) (a_cons x_i a_nil))))) ss_nil)
      (ss_cons (y_if (t_notn (x_v 9) x_n) (ss_one (y_asg 9 nd (x_max B hK rfl (a_cons (x_v 9) (a_cons (x_add hK (x_v 8) (x_int B (a_cons (x_le (x_v 10) x_i) a_nil))) (a_cons x_i a_nil)))))) ss_nil)
      (ss_one (y_app 4 hK (x_tup (a_cons (x_v 5) (a_cons (x_v 6) (a_cons (x_v 7) (a_cons (x_v 8) (a_cons (x_v 9) a_nil))))))))))))
      (ss_one (y_ret (x_tup (a_cons (x_ix hK hu (x_v 1) x_i) (a_cons (x_tuple B hK (a_cons (x_v 4) a_nil)) a_nil))))))))))
  exact ⟨_, h.pe, h.so⟩
theorem sc_law_closed : FnScope ["box", "most", "bins", "great", "names", "held", "more", "k", "machines", "rows", "stock", "room", "machine", "row", "name"] ["box", "most", "bins", "great"] (defScope s_law_closed) := ⟨rfl, rfl, rfl, by decide +kernel, rfl, by decide +kernel, by decide +kernel⟩
theorem ok_law_closed {f : Addr} {fd : FuncData} (F : Fun K "_law_closed" "_law_closed" s_law_closed f fd) (hm : mg "_law_closed" = some (.ref f)) (B : Bi mg) (c_law_works : Callee P w K mg base 5 "_law_works" sp_law_works) (c_law_names : Callee P w K mg base 3 "_law_names" sp_law_names) (c_law_pick : Callee P w K mg base 2 "_law_pick" sp_law_pick) (c_law_lively : Callee P w K mg base 2 "_law_lively" sp_law_lively) : Callee P w K mg base 6 "_law_closed" sp_law_closed := by
  refine ⟨f, fd, ["box", "most", "bins", "great"], fn_pw (wS := w_law_closed) F sc_law_closed l_law_closed (fun cdv A outer s H E hr => ?_) p_law_closed, hm, F.kp, F.binds fun _ _ _ _ _ _ us hl => match us, hl with | [_, _, _, _], _ => rfl⟩
  have hu := hr.units
  have nd := sc_law_closed.nd
  have hK : (cxOf CX0 P w K mg base ["box", "most", "bins", "great", "names", "held", "more", "k", "machines", "rows", "stock", "room", "machine", "row", "name"] "_law_closed" (defScope s_law_closed) f cdv A outer s H E).nox.K = K := rfl
  have h : PSsw K (cxOf CX0 P w K mg base ["box", "most", "bins", "great", "names", "held", "more", "k", "machines", "rows", "stock", "room", "machine", "row", "name"] "_law_closed" (defScope s_law_closed) f cdv A outer s H E).nox (defBody s_law_closed) _ w_law_closed := (ss_cons (y_tgt (x_call hK c_law_works hr (by decide) (a_cons (x_v 0) (a_cons (x_v 1) (a_cons (x_v 2) (a_cons (x_v 3) a_nil))))) (g_tp hK rfl (gs_cons (g_nm 8 nd) (gs_cons (g_nm 9 nd) gs_nil))))
      (ss_cons (y_asgLc 4 [("machine", 12)] rfl nd (i_seq hK (x_v 8)) (fun _ _ _ _ _ => by exact (g_nm 12 nd)) (fun _ _ _ _ _ => by exact ts_nil) (fun _ _ _ _ _ => by exact (n_nw (x_ix hK hu (x_v 12) x_i))))
      (ss_cons (y_asg 5 nd (x_fz (n_lc [("row", 13)] rfl nd (i_seq hK (x_v 9)) (fun _ _ _ _ _ => by exact (g_nm 13 nd)) (fun _ _ _ _ _ => by exact ts_nil) (fun _ _ _ _ _ => by exact (n_nw (x_ix hK hu (x_v 13) x_i))))))
      (ss_cons (y_asg 6 nd (x_sl hK (x_fz (n_lc [("name", 14)] rfl nd (i_seq hK (x_call hK c_law_names hr (by decide) (a_cons (x_v 0) (a_cons x_i a_nil)))) (fun _ _ _ _ _ => by exact (g_nm 14 nd)) (fun _ _ _ _ _ => by exact (ts_one (t_nin hK hu (x_v 14) (x_v 5)))) (fun _ _ _ _ _ => by exact (n_nw (x_v 14))))) o_no (o_so (x_len B hK (a_cons (x_v 4) a_nil)))))
      (ss_cons (y_for PassesOwn.never rfl (i_rg1 B (a_cons (x_len B hK (a_cons (x_v 4) a_nil)) a_nil)) (g_nm 7 nd) (ss_cons (y_asg 10 nd (x_call hK c_law_pick hr (by decide) (a_cons (x_v 0) (a_cons (x_fz (n_lst (a_cons x_i (a_cons x_i (a_cons x_i (a_cons x_i a_nil)))))) a_nil))))
      (ss_cons (y_asg 11 nd (x_call hK c_law_pick hr (by decide) (a_cons (x_v 0) (a_cons (x_fz (n_lst (a_cons x_n (a_cons x_n (a_cons (x_add hK (x_v 10) x_i) (a_cons (x_add hK (x_v 10) x_i) a_nil)))))) a_nil))))
      (ss_one (y_asg 9 nd (x_add hK (x_v 9) (x_tup (a_cons (x_tup (a_cons (x_ix hK hu (x_v 6) (x_v 7)) (a_cons (x_ix hK hu (x_v 4) (x_v 7)) (a_cons (x_ix hK hu (x_v 4) (x_mod (x_int B (a_cons (x_add hK (x_v 7) x_i) a_nil)) (x_len B hK (a_cons (x_v 4) a_nil)))) (a_cons (x_v 10) (a_cons (x_v 11) a_nil)))))) a_nil))))))))
      (ss_one (y_ret (x_call hK c_law_lively hr (by decide) (a_cons (x_v 0) (a_cons (x_tup (a_cons (x_v 8) (a_cons (x_tuple B hK (a_cons (x_sortF B hK (a_cons (x_v 9) a_nil)) a_nil)) a_nil))) a_nil))))))))))
  exact ⟨_, h.pe, h.so⟩
theorem sc_law_name_list : FnScope ["works", "machine"] ["works"] (defScope s_law_name_list) := ⟨rfl, rfl, rfl, by decide +kernel, rfl, by decide +kernel, by decide +kernel⟩
theorem ok_law_name_list {f : Addr} {fd : FuncData} (F : Fun K "_law_name_list" "_law_name_list" s_law_name_list f fd) (hm : mg "_law_name_list" = some (.ref f)) (B : Bi mg)  : Callee P w K mg base 1 "_law_name_list" sp_law_name_list := by
  refine ⟨f, fd, ["works"], fn_pw (wS := w_law_name_list) F sc_law_name_list l_law_name_list (fun cdv A outer s H E hr => ?_) p_law_name_list, hm, F.kp, F.binds fun _ _ _ _ _ _ us hl => match us, hl with | [_], _ => rfl⟩
  have hu := hr.units
  have nd := sc_law_name_list.nd
  have hK : (cxOf CX0 P w K mg base ["works", "machine"] "_law_name_list" (defScope s_law_name_list) f cdv A outer s H E).nox.K = K := rfl
  have h : PSsw K (cxOf CX0 P w K mg base ["works", "machine"] "_law_name_list" (defScope s_law_name_list) f cdv A outer s H E).nox (defBody s_law_name_list) _ w_law_name_list := (ss_one (y_ret (x_fz (n_lc [("machine", 1)] rfl nd (i_seq hK (x_ix hK hu (x_v 0) x_i)) (fun _ _ _ _ _ => by exact (g_nm 1 nd)) (fun _ _ _ _ _ => by exact ts_nil) (fun _ _ _ _ _ => by exact (n_nw (x_ix hK hu (x_v 1) x_i)))))))
  exact ⟨_, h.pe, h.so⟩
theorem sc_ties_of : FnScope ["works", "parts", "rooms", "name", "start", "goal", "stock", "room"] ["works"] (defScope s_ties_of) := ⟨rfl, rfl, rfl, by decide +kernel, rfl, by decide +kernel, by decide +kernel⟩
theorem ok_ties_of {f : Addr} {fd : FuncData} (F : Fun K "ties_of" "ties_of" s_ties_of f fd) (hm : mg "ties_of" = some (.ref f)) (B : Bi mg)  : Callee P w K mg base 1 "ties_of" sp_ties_of := by
  refine ⟨f, fd, ["works"], fn_pw (wS := w_ties_of) F sc_ties_of l_ties_of (fun cdv A outer s H E hr => ?_) p_ties_of, hm, F.kp, F.binds fun _ _ _ _ _ _ us hl => match us, hl with | [_], _ => rfl⟩
  have hu := hr.units
  have nd := sc_ties_of.nd
  have hK : (cxOf CX0 P w K mg base ["works", "parts", "rooms", "name", "start", "goal", "stock", "room"] "ties_of" (defScope s_ties_of) f cdv A outer s H E).nox.K = K := rfl
  have h : PSsw K (cxOf CX0 P w K mg base ["works", "parts", "rooms", "name", "start", "goal", "stock", "room"] "ties_of" (defScope s_ties_of) f cdv A outer s H E).nox (defBody s_ties_of) _ w_ties_of := (ss_cons (y_asgLc 1 [("name", 3), ("start", 4), ("goal", 5), ("stock", 6), ("room", 7)] rfl nd (i_seq hK (x_ix hK hu (x_v 0) x_i)) (fun _ _ _ _ _ => by exact (g_tp hK rfl (gs_cons (g_nm 3 nd) (gs_cons (g_nm 4 nd) (gs_cons (g_nm 5 nd) (gs_cons (g_nm 6 nd) (gs_cons (g_nm 7 nd) gs_nil))))))) (fun _ _ _ _ _ => by exact ts_nil) (fun _ _ _ _ _ => by exact (n_nw (x_tup (a_cons (x_tup (a_cons x_s (a_cons (x_v 3) a_nil))) (a_cons (x_v 4) (a_cons (x_v 5) (a_cons (x_v 6) a_nil))))))))
      (ss_cons (y_new 2 nd (n_lst a_nil))
      (ss_cons (y_for PassesOwn.never rfl (i_seq hK (x_ix hK hu (x_v 0) x_i)) (g_tp hK rfl (gs_cons (g_nm 3 nd) (gs_cons (g_nm 4 nd) (gs_cons (g_nm 5 nd) (gs_cons (g_nm 6 nd) (gs_cons (g_nm 7 nd) gs_nil)))))) (ss_one (y_if (t_notn (x_v 7) x_n) (ss_one (y_app 2 hK (x_tup (a_cons (x_tup (a_cons x_s (a_cons (x_v 3) a_nil))) (a_cons (x_v 5) (a_cons (x_v 4) (a_cons (x_sub (x_v 7) (x_v 6)) a_nil))))))) ss_nil)))
      (ss_frz 2 (ss_one (y_ret (x_add hK (x_v 1) (x_v 2))))))))
  exact ⟨_, h.pe, h.so⟩
theorem sc_names_of : FnScope ["works", "machine"] ["works"] (defScope s_names_of) := ⟨rfl, rfl, rfl, by decide +kernel, rfl, by decide +kernel, by decide +kernel⟩
theorem ok_names_of {f : Addr} {fd : FuncData} (F : Fun K "names_of" "names_of" s_names_of f fd) (hm : mg "names_of" = some (.ref f)) (B : Bi mg)  : Callee P w K mg base 1 "names_of" sp_names_of := by
  refine ⟨f, fd, ["works"], fn_pw (wS := w_names_of) F sc_names_of l_names_of (fun cdv A outer s H E hr => ?_) p_names_of, hm, F.kp, F.binds fun _ _ _ _ _ _ us hl => match us, hl with | [_], _ => rfl⟩
  have hu := hr.units
  have nd := sc_names_of.nd
  have hK : (cxOf CX0 P w K mg base ["works", "machine"] "names_of" (defScope s_names_of) f cdv A outer s H E).nox.K = K := rfl
  have h : PSsw K (cxOf CX0 P w K mg base ["works", "machine"] "names_of" (defScope s_names_of) f cdv A outer s H E).nox (defBody s_names_of) _ w_names_of := (ss_one (y_ret (x_fz (n_lc [("machine", 1)] rfl nd (i_seq hK (x_ix hK hu (x_v 0) x_i)) (fun _ _ _ _ _ => by exact (g_nm 1 nd)) (fun _ _ _ _ _ => by exact ts_nil) (fun _ _ _ _ _ => by exact (n_nw (x_ix hK hu (x_v 1) x_i)))))))
  exact ⟨_, h.pe, h.so⟩
theorem sc_leaving_of : FnScope ["ties", "found", "at", "tie"] ["ties"] (defScope s_leaving_of) := ⟨rfl, rfl, rfl, by decide +kernel, rfl, by decide +kernel, by decide +kernel⟩
theorem ok_leaving_of {f : Addr} {fd : FuncData} (F : Fun K "leaving_of" "leaving_of" s_leaving_of f fd) (hm : mg "leaving_of" = some (.ref f)) (B : Bi mg)  : Callee P w K mg base 1 "leaving_of" sp_leaving_of := by
  refine ⟨f, fd, ["ties"], fn_pw (wS := w_leaving_of) F sc_leaving_of l_leaving_of (fun cdv A outer s H E hr => ?_) p_leaving_of, hm, F.kp, F.binds fun _ _ _ _ _ _ us hl => match us, hl with | [_], _ => rfl⟩
  have hu := hr.units
  have nd := sc_leaving_of.nd
  have hK : (cxOf CX0 P w K mg base ["ties", "found", "at", "tie"] "leaving_of" (defScope s_leaving_of) f cdv A outer s H E).nox.K = K := rfl
  have h : PSsw K (cxOf CX0 P w K mg base ["ties", "found", "at", "tie"] "leaving_of" (defScope s_leaving_of) f cdv A outer s H E).nox (defBody s_leaving_of) _ w_leaving_of := (ss_cons (y_new 1 nd n_dk)
      (ss_cons (y_for PassesOwn.never rfl (i_enum B hK (a_cons (x_v 0) a_nil)) (g_tp hK rfl (gs_cons (g_nm 2 nd) (gs_cons (g_nm 3 nd) gs_nil))) (ss_one (y_sdApp 1 hK (x_ix hK hu (x_v 3) x_i) (x_v 2))))
      (ss_frz 1 (ss_one (y_ret (x_v 1))))))
  exact ⟨_, h.pe, h.so⟩
theorem sc_order_or_ring : FnScope ["names", "ties", "waits", "tie", "leaving", "row", "at", "index", "name", "goal"] ["names", "ties"] (defScope s_order_or_ring) := ⟨rfl, rfl, rfl, by decide +kernel, rfl, by decide +kernel, by decide +kernel⟩
theorem ok_order_or_ring {f : Addr} {fd : FuncData} (F : Fun K "order_or_ring" "order_or_ring" s_order_or_ring f fd) (hm : mg "order_or_ring" = some (.ref f)) (B : Bi mg) (c_leaving_of : Callee P w K mg base 1 "leaving_of" sp_leaving_of) : Callee P w K mg base 2 "order_or_ring" sp_order_or_ring := by
  refine ⟨f, fd, ["names", "ties"], fn_pw (wS := w_order_or_ring) F sc_order_or_ring l_order_or_ring (fun cdv A outer s H E hr => ?_) p_order_or_ring, hm, F.kp, F.binds fun _ _ _ _ _ _ us hl => match us, hl with | [_, _], _ => rfl⟩
  have hu := hr.units
  have nd := sc_order_or_ring.nd
  have hK : (cxOf CX0 P w K mg base ["names", "ties", "waits", "tie", "leaving", "row", "at", "index", "name", "goal"] "order_or_ring" (defScope s_order_or_ring) f cdv A outer s H E).nox.K = K := rfl
  have h : PSsw K (cxOf CX0 P w K mg base ["names", "ties", "waits", "tie", "leaving", "row", "at", "index", "name", "goal"] "order_or_ring" (defScope s_order_or_ring) f cdv A outer s H E).nox (defBody s_order_or_ring) _ w_order_or_ring := (ss_cons (y_new 2 nd (n_dc [("name", 8)] rfl nd (i_seq hK (x_v 0)) (fun _ _ _ _ _ => by exact (g_nm 8 nd)) (fun _ _ _ _ _ => by exact ts_nil) (fun _ _ _ _ _ => by exact (x_v 8)) (fun _ _ _ _ _ => by exact (n_nw x_i))))
      (ss_cons (y_for PassesOwn.never rfl (i_seq hK (x_v 1)) (g_nm 3 nd) (ss_one (y_daug 2 hu (x_ix hK hu (x_v 3) x_i) x_i)))
      (ss_cons (y_asg 4 nd (x_call hK c_leaving_of hr (by decide) (a_cons (x_v 1) a_nil)))
      (ss_cons (y_new 5 nd (n_lc [("name", 8)] rfl nd (i_seq hK (x_v 0)) (fun _ _ _ _ _ => by exact (g_nm 8 nd)) (fun _ _ _ _ _ => by exact (ts_one (t_eq hK hu (x_ix hK hu (x_v 2) (x_v 8)) x_i))) (fun _ _ _ _ _ => by exact (n_nw (x_v 8)))))
      (ss_cons (y_asg 6 nd x_i)
      (ss_cons (y_while PassesOwn.never (t_lt (x_v 6) (x_len B hK (a_cons (x_v 5) a_nil))) (ss_cons (y_for PassesOwn.never rfl (i_seq hK (x_get2 hu (x_v 4) (x_ix hK hu (x_v 5) (x_v 6)) (x_fz (n_lst a_nil)))) (g_nm 7 nd) (ss_cons (y_asg 9 nd (x_ix hK hu (x_ix hK hu (x_v 1) (x_v 7)) x_i))
      (ss_cons (y_daugS 2 hu (x_v 9) x_i)
      (ss_one (y_if (t_eq hK hu (x_ix hK hu (x_v 2) (x_v 9)) x_i) (ss_one (y_app 5 hK (x_v 9))) ss_nil)))))
      (ss_one (y_aug 6 nd x_i))))
      (ss_cons (y_if (t_eq hK hu (x_len B hK (a_cons (x_v 5) a_nil)) (x_len B hK (a_cons (x_v 0) a_nil))) (ss_frz 5 (ss_one (y_ret (x_tup (a_cons x_s (a_cons (x_v 5) a_nil)))))) ss_nil)
      ss_never)))))))
  exact ⟨_, h.pe, h.so⟩
theorem sc_goes_on : FnScope ["works", "ties", "word", "row", "tie", "at"] ["works"] (defScope s_goes_on) := ⟨rfl, rfl, rfl, by decide +kernel, rfl, by decide +kernel, by decide +kernel⟩
theorem ok_goes_on {f : Addr} {fd : FuncData} (F : Fun K "goes_on" "goes_on" s_goes_on f fd) (hm : mg "goes_on" = some (.ref f)) (B : Bi mg) (c_ties_of : Callee P w K mg base 1 "ties_of" sp_ties_of) (c_names_of : Callee P w K mg base 1 "names_of" sp_names_of) (c_order_or_ring : Callee P w K mg base 2 "order_or_ring" sp_order_or_ring) : Callee P w K mg base 3 "goes_on" sp_goes_on := by
  refine ⟨f, fd, ["works"], fn_pw (wS := w_goes_on) F sc_goes_on l_goes_on (fun cdv A outer s H E hr => ?_) p_goes_on, hm, F.kp, F.binds fun _ _ _ _ _ _ us hl => match us, hl with | [_], _ => rfl⟩
  have hu := hr.units
  have nd := sc_goes_on.nd
  have hK : (cxOf CX0 P w K mg base ["works", "ties", "word", "row", "tie", "at"] "goes_on" (defScope s_goes_on) f cdv A outer s H E).nox.K = K := rfl
  have h : PSsw K (cxOf CX0 P w K mg base ["works", "ties", "word", "row", "tie", "at"] "goes_on" (defScope s_goes_on) f cdv A outer s H E).nox (defBody s_goes_on) _ w_goes_on := (ss_cons (y_asg 1 nd (x_fz (n_lc [("tie", 4)] rfl nd (i_seq hK (x_call hK c_ties_of hr (by decide) (a_cons (x_v 0) a_nil))) (fun _ _ _ _ _ => by exact (g_nm 4 nd)) (fun _ _ _ _ _ => by exact (ts_one (t_eq hK hu (x_ix hK hu (x_v 4) x_i) x_i))) (fun _ _ _ _ _ => by exact (n_nw (x_v 4))))))
      (ss_cons (y_tgt (x_call hK c_order_or_ring hr (by decide) (a_cons (x_call hK c_names_of hr (by decide) (a_cons (x_v 0) a_nil)) (a_cons (x_v 1) a_nil))) (g_tp hK rfl (gs_cons (g_nm 2 nd) (gs_cons (g_nm 3 nd) gs_nil))))
      (ss_cons (y_if (t_eq hK hu (x_v 2) x_s) (ss_one (y_ret (x_tup (a_cons x_s (a_cons (x_tuple B hK (a_cons (x_v 3) a_nil)) a_nil))))) ss_nil)
      ss_never)))
  exact ⟨_, h.pe, h.so⟩
theorem sc_check_endless : FnScope ["works"] ["works"] (defScope s_check_endless) := ⟨rfl, rfl, rfl, by decide +kernel, rfl, by decide +kernel, by decide +kernel⟩
theorem ok_check_endless {f : Addr} {fd : FuncData} (F : Fun K "check_endless" "check_endless" s_check_endless f fd) (hm : mg "check_endless" = some (.ref f)) (B : Bi mg) (c_goes_on : Callee P w K mg base 3 "goes_on" sp_goes_on) : Callee P w K mg base 4 "check_endless" sp_check_endless := by
  refine ⟨f, fd, ["works"], fn_pw (wS := w_check_endless) F sc_check_endless l_check_endless (fun cdv A outer s H E hr => ?_) p_check_endless, hm, F.kp, F.binds fun _ _ _ _ _ _ us hl => match us, hl with | [_], _ => rfl⟩
  have hu := hr.units
  have nd := sc_check_endless.nd
  have hK : (cxOf CX0 P w K mg base ["works"] "check_endless" (defScope s_check_endless) f cdv A outer s H E).nox.K = K := rfl
  have h : PSsw K (cxOf CX0 P w K mg base ["works"] "check_endless" (defScope s_check_endless) f cdv A outer s H E).nox (defBody s_check_endless) _ w_check_endless := (ss_one (y_if (t_eq hK hu (x_ix hK hu (x_call hK c_goes_on hr (by decide) (a_cons (x_v 0) a_nil)) x_i) x_s) (ss_one y_never) ss_nil))
  exact ⟨_, h.pe, h.so⟩
theorem sc_times_of : FnScope ["works", "machine"] ["works"] (defScope s_times_of) := ⟨rfl, rfl, rfl, by decide +kernel, rfl, by decide +kernel, by decide +kernel⟩
theorem ok_times_of {f : Addr} {fd : FuncData} (F : Fun K "times_of" "times_of" s_times_of f fd) (hm : mg "times_of" = some (.ref f)) (B : Bi mg)  : Callee P w K mg base 1 "times_of" sp_times_of := by
  refine ⟨f, fd, ["works"], fn_pw (wS := w_times_of) F sc_times_of l_times_of (fun cdv A outer s H E hr => ?_) p_times_of, hm, F.kp, F.binds fun _ _ _ _ _ _ us hl => match us, hl with | [_], _ => rfl⟩
  have hu := hr.units
  have nd := sc_times_of.nd
  have hK : (cxOf CX0 P w K mg base ["works", "machine"] "times_of" (defScope s_times_of) f cdv A outer s H E).nox.K = K := rfl
  have h : PSsw K (cxOf CX0 P w K mg base ["works", "machine"] "times_of" (defScope s_times_of) f cdv A outer s H E).nox (defBody s_times_of) _ w_times_of := (ss_one (y_ret (x_fz (n_dc [("machine", 1)] rfl nd (i_seq hK (x_ix hK hu (x_v 0) x_i)) (fun _ _ _ _ _ => by exact (g_nm 1 nd)) (fun _ _ _ _ _ => by exact ts_nil) (fun _ _ _ _ _ => by exact (x_ix hK hu (x_v 1) x_i)) (fun _ _ _ _ _ => by exact (n_nw (x_ix hK hu (x_v 1) x_i)))))))
  exact ⟨_, h.pe, h.so⟩
theorem sc_round_order : FnScope ["works", "ties", "waits", "row", "at", "tie", "name"] ["works"] (defScope s_round_order) := ⟨rfl, rfl, rfl, by decide +kernel, rfl, by decide +kernel, by decide +kernel⟩
theorem ok_round_order {f : Addr} {fd : FuncData} (F : Fun K "round_order" "round_order" s_round_order f fd) (hm : mg "round_order" = some (.ref f)) (B : Bi mg) (c_ties_of : Callee P w K mg base 1 "ties_of" sp_ties_of) (c_names_of : Callee P w K mg base 1 "names_of" sp_names_of) : Callee P w K mg base 2 "round_order" sp_round_order := by
  refine ⟨f, fd, ["works"], fn_pw (wS := w_round_order) F sc_round_order l_round_order (fun cdv A outer s H E hr => ?_) p_round_order, hm, F.kp, F.binds fun _ _ _ _ _ _ us hl => match us, hl with | [_], _ => rfl⟩
  have hu := hr.units
  have nd := sc_round_order.nd
  have hK : (cxOf CX0 P w K mg base ["works", "ties", "waits", "row", "at", "tie", "name"] "round_order" (defScope s_round_order) f cdv A outer s H E).nox.K = K := rfl
  have h : PSsw K (cxOf CX0 P w K mg base ["works", "ties", "waits", "row", "at", "tie", "name"] "round_order" (defScope s_round_order) f cdv A outer s H E).nox (defBody s_round_order) _ w_round_order := (ss_cons (y_asg 1 nd (x_fz (n_lc [("tie", 5)] rfl nd (i_seq hK (x_call hK c_ties_of hr (by decide) (a_cons (x_v 0) a_nil))) (fun _ _ _ _ _ => by exact (g_nm 5 nd)) (fun _ _ _ _ _ => by exact (ts_one (t_eq hK hu (x_ix hK hu (x_v 5) x_i) x_i))) (fun _ _ _ _ _ => by exact (n_nw (x_v 5))))))
      (ss_cons (y_new 2 nd (n_dc [("name", 6)] rfl nd (i_seq hK (x_call hK c_names_of hr (by decide) (a_cons (x_v 0) a_nil))) (fun _ _ _ _ _ => by exact (g_nm 6 nd)) (fun _ _ _ _ _ => by exact ts_nil) (fun _ _ _ _ _ => by exact (x_v 6)) (fun _ _ _ _ _ => by exact (n_nw (x_len B hK (a_cons (x_fz (n_lc [("tie", 5)] rfl nd (i_seq hK (x_v 1)) (fun _ _ _ _ _ => by exact (g_nm 5 nd)) (fun _ _ _ _ _ => by exact (ts_one (t_eq hK hu (x_ix hK hu (x_v 5) x_i) (x_v 6)))) (fun _ _ _ _ _ => by exact (n_nw (x_v 5))))) a_nil))))))
      (ss_cons (y_newLc 3 [("name", 6)] rfl nd (i_seq hK (x_call hK c_names_of hr (by decide) (a_cons (x_v 0) a_nil))) (fun _ _ _ _ _ => by exact (g_nm 6 nd)) (fun _ _ _ _ _ => by exact (ts_one (t_eq hK hu (x_ix hK hu (x_v 2) (x_v 6)) x_i))) (fun _ _ _ _ _ => by exact (n_nw (x_v 6))))
      (ss_cons (y_asg 4 nd x_i)
      (ss_cons (y_while PassesOwn.never (t_lt (x_v 4) (x_len B hK (a_cons (x_v 3) a_nil))) (ss_cons (y_for PassesOwn.never rfl (i_seq hK (x_v 1)) (g_nm 5 nd) (ss_one (y_if (t_eq hK hu (x_ix hK hu (x_v 5) x_i) (x_ix hK hu (x_v 3) (x_v 4))) (ss_cons (y_daugS 2 hu (x_ix hK hu (x_v 5) x_i) x_i)
      (ss_one (y_if (t_eq hK hu (x_ix hK hu (x_v 2) (x_ix hK hu (x_v 5) x_i)) x_i) (ss_one (y_app 3 hK (x_ix hK hu (x_v 5) x_i))) ss_nil))) ss_nil)))
      (ss_one (y_aug 4 nd x_i))))
      (ss_frz 3 (ss_one (y_ret (x_v 3)))))))))
  exact ⟨_, h.pe, h.so⟩
theorem sc_inner_order : FnScope ["works", "order", "names", "times", "found", "name", "ways", "tie", "start", "goal", "count"] ["works", "order"] (defScope s_inner_order) := ⟨rfl, rfl, rfl, by decide +kernel, rfl, by decide +kernel, by decide +kernel⟩
theorem ok_inner_order {f : Addr} {fd : FuncData} (F : Fun K "inner_order" "inner_order" s_inner_order f fd) (hm : mg "inner_order" = some (.ref f)) (B : Bi mg) (c_names_of : Callee P w K mg base 1 "names_of" sp_names_of) (c_times_of : Callee P w K mg base 1 "times_of" sp_times_of) (c_ties_of : Callee P w K mg base 1 "ties_of" sp_ties_of) : Callee P w K mg base 2 "inner_order" sp_inner_order := by
  refine ⟨f, fd, ["works", "order"], fn_pw (wS := w_inner_order) F sc_inner_order l_inner_order (fun cdv A outer s H E hr => ?_) p_inner_order, hm, F.kp, F.binds fun _ _ _ _ _ _ us hl => match us, hl with | [_, _], _ => rfl⟩
  have hu := hr.units
  have nd := sc_inner_order.nd
  have hK : (cxOf CX0 P w K mg base ["works", "order", "names", "times", "found", "name", "ways", "tie", "start", "goal", "count"] "inner_order" (defScope s_inner_order) f cdv A outer s H E).nox.K = K := rfl
  have h : PSsw K (cxOf CX0 P w K mg base ["works", "order", "names", "times", "found", "name", "ways", "tie", "start", "goal", "count"] "inner_order" (defScope s_inner_order) f cdv A outer s H E).nox (defBody s_inner_order) _ w_inner_order := (ss_cons (y_asg 2 nd (x_call hK c_names_of hr (by decide) (a_cons (x_v 0) a_nil)))
      (ss_cons (y_asg 3 nd (x_call hK c_times_of hr (by decide) (a_cons (x_v 0) a_nil)))
      (ss_cons (y_new 4 nd (n_lst a_nil))
      (ss_cons (y_for PassesOwn.never rfl (i_seq hK (x_v 1)) (g_nm 5 nd) (ss_cons (y_asgLc 6 [("tie", 7), ("start", 8), ("goal", 9), ("count", 10)] rfl nd (i_seq hK (x_call hK c_ties_of hr (by decide) (a_cons (x_v 0) a_nil))) (fun _ _ _ _ _ => by exact (g_tp hK rfl (gs_cons (g_nm 7 nd) (gs_cons (g_nm 8 nd) (gs_cons (g_nm 9 nd) (gs_cons (g_nm 10 nd) gs_nil)))))) (fun _ _ _ _ _ => by exact (ts_one (t_eq hK hu (x_v 9) (x_v 5)))) (fun _ _ _ _ _ => by exact (n_nw (x_tup (a_cons (x_index hK (x_v 2) (a_cons (x_v 8) a_nil)) (a_cons (x_v 10) (a_cons (x_ix hK hu (x_v 3) (x_v 8)) a_nil)))))))
      (ss_one (y_app 4 hK (x_tup (a_cons (x_index hK (x_v 2) (a_cons (x_v 5) a_nil)) (a_cons (x_v 6) a_nil)))))))
      (ss_frz 4 (ss_one (y_ret (x_v 4))))))))
  exact ⟨_, h.pe, h.so⟩
theorem sc_rounds : FnScope ["works", "many", "late", "names", "steps", "table", "k", "name", "place", "ways", "best", "start", "count", "time"] ["works", "many", "late"] (defScope s_rounds) := ⟨rfl, rfl, rfl, by decide +kernel, rfl, by decide +kernel, by decide +kernel⟩
theorem ok_rounds {f : Addr} {fd : FuncData} (F : Fun K "rounds" "rounds" s_rounds f fd) (hm : mg "rounds" = some (.ref f)) (B : Bi mg) (c_names_of : Callee P w K mg base 1 "names_of" sp_names_of) (c_round_order : Callee P w K mg base 2 "round_order" sp_round_order) (c_inner_order : Callee P w K mg base 2 "inner_order" sp_inner_order) : Callee P w K mg base 3 "rounds" sp_rounds := by
  refine ⟨f, fd, ["works", "many", "late"], fn_pw (wS := w_rounds) F sc_rounds l_rounds (fun cdv A outer s H E hr => ?_) p_rounds, hm, F.kp, F.binds fun _ _ _ _ _ _ us hl => match us, hl with | [_, _, _], _ => rfl⟩
  have hu := hr.units
  have nd := sc_rounds.nd
  have hK : (cxOf CX0 P w K mg base ["works", "many", "late", "names", "steps", "table", "k", "name", "place", "ways", "best", "start", "count", "time"] "rounds" (defScope s_rounds) f cdv A outer s H E).nox.K = K := rfl
  have h : PSsw K (cxOf CX0 P w K mg base ["works", "many", "late", "names", "steps", "table", "k", "name", "place", "ways", "best", "start", "count", "time"] "rounds" (defScope s_rounds) f cdv A outer s H E).nox (defBody s_rounds) _ w_rounds := (ss_cons (y_asg 3 nd (x_call hK c_names_of hr (by decide) (a_cons (x_v 0) a_nil)))
      (ss_cons (y_asg 4 nd (x_call hK c_inner_order hr (by decide) (a_cons (x_v 0) (a_cons (x_call hK c_round_order hr (by decide) (a_cons (x_v 0) a_nil)) a_nil))))
      (ss_cons (y_newLc 5 [("name", 7)] rfl nd (i_seq hK (x_v 3)) (fun _ _ _ _ _ => by exact (g_nm 7 nd)) (fun _ _ _ _ _ => by exact ts_nil) (fun _ _ _ _ _ => by exact (n_lc [("k", 6)] rfl nd (i_rg1 B (a_cons (x_v 1) a_nil)) (fun _ _ _ _ _ => by exact (g_nm 6 nd)) (fun _ _ _ _ _ => by exact ts_nil) (fun _ _ _ _ _ => by exact (n_nw x_i)))))
      (ss_cons (y_for PassesOwn.never rfl (i_rg1 B (a_cons (x_v 1) a_nil)) (g_nm 6 nd) (ss_one (y_for PassesOwn.never rfl (i_seq hK (x_v 4)) (g_tp hK rfl (gs_cons (g_nm 8 nd) (gs_cons (g_nm 9 nd) gs_nil))) (ss_cons (y_asg 10 nd x_i)
      (ss_cons (y_for PassesOwn.never rfl (i_seq hK (x_v 9)) (g_tp hK rfl (gs_cons (g_nm 11 nd) (gs_cons (g_nm 12 nd) (gs_cons (g_nm 13 nd) gs_nil)))) (ss_one (y_if (t_bop (w_and (t_le (x_v 12) (x_v 6)) (w_and1 (t_gt (x_add hK (x_ix hK hu (x_ix hK hu (x_v 5) (x_v 11)) (x_sub (x_v 6) (x_v 12))) (x_v 13)) (x_v 10))))) (ss_one (y_asg 10 nd (x_add hK (x_ix hK hu (x_ix hK hu (x_v 5) (x_v 11)) (x_sub (x_v 6) (x_v 12))) (x_v 13)))) ss_nil)))
      (ss_one (y_set2 5 hK hu (x_v 8) (x_v 6) (x_add hK (x_v 10) (x_get2 hu (x_v 2) (x_tup (a_cons (x_v 8) (a_cons (x_v 6) a_nil))) x_i)))))))))
      (ss_frz 5 (ss_one (y_ret (x_v 5))))))))
  exact ⟨_, h.pe, h.so⟩
theorem sc_waited_ties : FnScope ["works", "names", "times", "table", "machine", "k", "due", "found", "tie", "begin", "goal", "count"] ["works", "names", "times", "table", "machine", "k"] (defScope s_waited_ties) := ⟨rfl, rfl, rfl, by decide +kernel, rfl, by decide +kernel, by decide +kernel⟩
theorem ok_waited_ties {f : Addr} {fd : FuncData} (F : Fun K "waited_ties" "waited_ties" s_waited_ties f fd) (hm : mg "waited_ties" = some (.ref f)) (B : Bi mg) (c_ties_of : Callee P w K mg base 1 "ties_of" sp_ties_of) : Callee P w K mg base 2 "waited_ties" sp_waited_ties := by
  refine ⟨f, fd, ["works", "names", "times", "table", "machine", "k"], fn_pw (wS := w_waited_ties) F sc_waited_ties l_waited_ties (fun cdv A outer s H E hr => ?_) p_waited_ties, hm, F.kp, F.binds fun _ _ _ _ _ _ us hl => match us, hl with | [_, _, _, _, _, _], _ => rfl⟩
  have hu := hr.units
  have nd := sc_waited_ties.nd
  have hK : (cxOf CX0 P w K mg base ["works", "names", "times", "table", "machine", "k", "due", "found", "tie", "begin", "goal", "count"] "waited_ties" (defScope s_waited_ties) f cdv A outer s H E).nox.K = K := rfl
  have h : PSsw K (cxOf CX0 P w K mg base ["works", "names", "times", "table", "machine", "k", "due", "found", "tie", "begin", "goal", "count"] "waited_ties" (defScope s_waited_ties) f cdv A outer s H E).nox (defBody s_waited_ties) _ w_waited_ties := (ss_cons (y_asg 6 nd (x_ix hK hu (x_ix hK hu (x_v 3) (x_index hK (x_v 1) (a_cons (x_v 4) a_nil))) (x_v 5)))
      (ss_cons (y_new 7 nd (n_lst a_nil))
      (ss_cons (y_for PassesOwn.never rfl (i_seq hK (x_call hK c_ties_of hr (by decide) (a_cons (x_v 0) a_nil))) (g_tp hK rfl (gs_cons (g_nm 8 nd) (gs_cons (g_nm 9 nd) (gs_cons (g_nm 10 nd) (gs_cons (g_nm 11 nd) gs_nil))))) (ss_one (y_if (t_bop (w_and (t_eq hK hu (x_v 10) (x_v 4)) (w_and (t_le (x_v 11) (x_v 5)) (w_and1 (t_eq hK hu (x_add hK (x_ix hK hu (x_ix hK hu (x_v 3) (x_index hK (x_v 1) (a_cons (x_v 9) a_nil))) (x_sub (x_v 5) (x_v 11))) (x_ix hK hu (x_v 2) (x_v 9))) (x_v 6)))))) (ss_one (y_app 7 hK (x_tup (a_cons (x_v 8) (a_cons (x_v 9) (a_cons (x_v 11) a_nil)))))) ss_nil)))
      (ss_frz 7 (ss_one (y_ret (x_v 7)))))))
  exact ⟨_, h.pe, h.so⟩
theorem sc_cause_of : FnScope ["works", "machine", "k", "names", "times", "table", "row", "place", "tie", "begin", "count"] ["works", "machine", "k"] (defScope s_cause_of) := ⟨rfl, rfl, rfl, by decide +kernel, rfl, by decide +kernel, by decide +kernel⟩
theorem ok_cause_of {f : Addr} {fd : FuncData} (F : Fun K "cause_of" "cause_of" s_cause_of f fd) (hm : mg "cause_of" = some (.ref f)) (B : Bi mg) (c_check_endless : Callee P w K mg base 4 "check_endless" sp_check_endless) (c_names_of : Callee P w K mg base 1 "names_of" sp_names_of) (c_times_of : Callee P w K mg base 1 "times_of" sp_times_of) (c_rounds : Callee P w K mg base 3 "rounds" sp_rounds) (c_waited_ties : Callee P w K mg base 2 "waited_ties" sp_waited_ties) : Callee P w K mg base 5 "cause_of" sp_cause_of := by
  refine ⟨f, fd, ["works", "machine", "k"], fn_pw (wS := w_cause_of) F sc_cause_of l_cause_of (fun cdv A outer s H E hr => ?_) p_cause_of, hm, F.kp, F.binds fun _ _ _ _ _ _ us hl => match us, hl with | [_, _, _], _ => rfl⟩
  have hu := hr.units
  have nd := sc_cause_of.nd
  have hK : (cxOf CX0 P w K mg base ["works", "machine", "k", "names", "times", "table", "row", "place", "tie", "begin", "count"] "cause_of" (defScope s_cause_of) f cdv A outer s H E).nox.K = K := rfl
  have h : PSsw K (cxOf CX0 P w K mg base ["works", "machine", "k", "names", "times", "table", "row", "place", "tie", "begin", "count"] "cause_of" (defScope s_cause_of) f cdv A outer s H E).nox (defBody s_cause_of) _ w_cause_of := (ss_cons (y_drop (x_call hK c_check_endless hr (by decide) (a_cons (x_v 0) a_nil)))
      (ss_cons (y_asg 3 nd (x_call hK c_names_of hr (by decide) (a_cons (x_v 0) a_nil)))
      (ss_cons (y_asg 4 nd (x_call hK c_times_of hr (by decide) (a_cons (x_v 0) a_nil)))
      (ss_cons (y_asg 5 nd (x_call hK c_rounds hr (by decide) (a_cons (x_v 0) (a_cons (x_add hK (x_v 2) x_i) (a_cons (x_fz n_dt) a_nil)))))
      (ss_cons (y_new 6 nd (n_lst a_nil))
      (ss_cons (y_asg 7 nd (x_v 1))
      (ss_cons (y_while PassesOwn.never (t_gt (x_ix hK hu (x_ix hK hu (x_v 5) (x_index hK (x_v 3) (a_cons (x_v 7) a_nil))) (x_v 2)) x_i) (ss_cons (y_tgt (x_ix hK hu (x_call hK c_waited_ties hr (by decide) (a_cons (x_v 0) (a_cons (x_v 3) (a_cons (x_v 4) (a_cons (x_v 5) (a_cons (x_v 7) (a_cons (x_v 2) a_nil))))))) x_i) (g_tp hK rfl (gs_cons (g_nm 8 nd) (gs_cons (g_nm 9 nd) (gs_cons (g_nm 10 nd) gs_nil)))))
      (ss_cons (y_app 6 hK (x_v 8))
      (ss_cons (y_asg 7 nd (x_v 9))
      (ss_one (y_augS 2 nd (x_v 10)))))))
      (ss_one (y_ret (x_tup (a_cons (x_v 7) (a_cons (x_v 2) (a_cons (x_tuple B hK (a_cons (x_rev hK (x_v 6)) a_nil)) a_nil)))))))))))))
  exact ⟨_, h.pe, h.so⟩
theorem sc_law_ties : FnScope ["works", "parts", "rooms", "name", "start", "goal", "stock", "room"] ["works"] (defScope s_law_ties) := ⟨rfl, rfl, rfl, by decide +kernel, rfl, by decide +kernel, by decide +kernel⟩
theorem ok_law_ties {f : Addr} {fd : FuncData} (F : Fun K "_law_ties" "_law_ties" s_law_ties f fd) (hm : mg "_law_ties" = some (.ref f)) (B : Bi mg)  : Callee P w K mg base 1 "_law_ties" sp_law_ties := by
  refine ⟨f, fd, ["works"], fn_pw (wS := w_law_ties) F sc_law_ties l_law_ties (fun cdv A outer s H E hr => ?_) p_law_ties, hm, F.kp, F.binds fun _ _ _ _ _ _ us hl => match us, hl with | [_], _ => rfl⟩
  have hu := hr.units
  have nd := sc_law_ties.nd
  have hK : (cxOf CX0 P w K mg base ["works", "parts", "rooms", "name", "start", "goal", "stock", "room"] "_law_ties" (defScope s_law_ties) f cdv A outer s H E).nox.K = K := rfl
  have h : PSsw K (cxOf CX0 P w K mg base ["works", "parts", "rooms", "name", "start", "goal", "stock", "room"] "_law_ties" (defScope s_law_ties) f cdv A outer s H E).nox (defBody s_law_ties) _ w_law_ties := (ss_cons (y_new 1 nd (n_lst a_nil))
      (ss_cons (y_new 2 nd (n_lst a_nil))
      (ss_cons (y_for PassesOwn.never rfl (i_seq hK (x_ix hK hu (x_v 0) x_i)) (g_tp hK rfl (gs_cons (g_nm 3 nd) (gs_cons (g_nm 4 nd) (gs_cons (g_nm 5 nd) (gs_cons (g_nm 6 nd) (gs_cons (g_nm 7 nd) gs_nil)))))) (ss_cons (y_app 1 hK (x_tup (a_cons (x_tup (a_cons x_s (a_cons (x_v 3) a_nil))) (a_cons (x_v 4) (a_cons (x_v 5) (a_cons (x_v 6) a_nil))))))
      (ss_one (y_if (t_notn (x_v 7) x_n) (ss_one (y_app 2 hK (x_tup (a_cons (x_tup (a_cons x_s (a_cons (x_v 3) a_nil))) (a_cons (x_v 5) (a_cons (x_v 4) (a_cons (x_sub (x_v 7) (x_v 6)) a_nil))))))) ss_nil))))
      (ss_frz 1 (ss_frz 2 (ss_one (y_ret (x_add hK (x_v 1) (x_v 2)))))))))
  exact ⟨_, h.pe, h.so⟩
theorem sc_law_known : FnScope ["works", "known", "tie", "start", "goal", "count"] ["works"] (defScope s_law_known) := ⟨rfl, rfl, rfl, by decide +kernel, rfl, by decide +kernel, by decide +kernel⟩
theorem ok_law_known {f : Addr} {fd : FuncData} (F : Fun K "_law_known" "_law_known" s_law_known f fd) (hm : mg "_law_known" = some (.ref f)) (B : Bi mg) (c_law_ties : Callee P w K mg base 1 "_law_ties" sp_law_ties) : Callee P w K mg base 2 "_law_known" sp_law_known := by
  refine ⟨f, fd, ["works"], fn_pw (wS := w_law_known) F sc_law_known l_law_known (fun cdv A outer s H E hr => ?_) p_law_known, hm, F.kp, F.binds fun _ _ _ _ _ _ us hl => match us, hl with | [_], _ => rfl⟩
  have hu := hr.units
  have nd := sc_law_known.nd
  have hK : (cxOf CX0 P w K mg base ["works", "known", "tie", "start", "goal", "count"] "_law_known" (defScope s_law_known) f cdv A outer s H E).nox.K = K := rfl
  have h : PSsw K (cxOf CX0 P w K mg base ["works", "known", "tie", "start", "goal", "count"] "_law_known" (defScope s_law_known) f cdv A outer s H E).nox (defBody s_law_known) _ w_law_known := (ss_cons (y_new 1 nd n_dt)
      (ss_cons (y_for PassesOwn.never rfl (i_seq hK (x_call hK c_law_ties hr (by decide) (a_cons (x_v 0) a_nil))) (g_tp hK rfl (gs_cons (g_nm 2 nd) (gs_cons (g_nm 3 nd) (gs_cons (g_nm 4 nd) (gs_cons (g_nm 5 nd) gs_nil))))) (ss_one (y_set 1 hu (x_v 2) (x_tup (a_cons (x_v 3) (a_cons (x_v 4) (a_cons (x_v 5) a_nil)))))))
      (ss_frz 1 (ss_one (y_ret (x_v 1))))))
  exact ⟨_, h.pe, h.so⟩
theorem sc_reached_from : FnScope ["works", "name", "ties", "leaving", "row", "at", "k"] ["works", "name"] (defScope s_reached_from) := ⟨rfl, rfl, rfl, by decide +kernel, rfl, by decide +kernel, by decide +kernel⟩
theorem ok_reached_from {f : Addr} {fd : FuncData} (F : Fun K "reached_from" "reached_from" s_reached_from f fd) (hm : mg "reached_from" = some (.ref f)) (B : Bi mg) (c_ties_of : Callee P w K mg base 1 "ties_of" sp_ties_of) (c_leaving_of : Callee P w K mg base 1 "leaving_of" sp_leaving_of) : Callee P w K mg base 2 "reached_from" sp_reached_from := by
  refine ⟨f, fd, ["works", "name"], fn_pw (wS := w_reached_from) F sc_reached_from l_reached_from (fun cdv A outer s H E hr => ?_) p_reached_from, hm, F.kp, F.binds fun _ _ _ _ _ _ us hl => match us, hl with | [_, _], _ => rfl⟩
  have hu := hr.units
  have nd := sc_reached_from.nd
  have hK : (cxOf CX0 P w K mg base ["works", "name", "ties", "leaving", "row", "at", "k"] "reached_from" (defScope s_reached_from) f cdv A outer s H E).nox.K = K := rfl
  have h : PSsw K (cxOf CX0 P w K mg base ["works", "name", "ties", "leaving", "row", "at", "k"] "reached_from" (defScope s_reached_from) f cdv A outer s H E).nox (defBody s_reached_from) _ w_reached_from := (ss_cons (y_asg 2 nd (x_call hK c_ties_of hr (by decide) (a_cons (x_v 0) a_nil)))
      (ss_cons (y_asg 3 nd (x_call hK c_leaving_of hr (by decide) (a_cons (x_v 2) a_nil)))
      (ss_cons (y_new 4 nd (n_lst (a_cons (x_v 1) a_nil)))
      (ss_cons (y_asg 5 nd x_i)
      (ss_cons (y_while PassesOwn.never (t_lt (x_v 5) (x_len B hK (a_cons (x_v 4) a_nil))) (ss_cons (y_ext 4 hK (x_sortSc B [("k", 6)] rfl nd (i_seq hK (x_get2 hu (x_v 3) (x_ix hK hu (x_v 4) (x_v 5)) (x_fz (n_lst a_nil)))) (fun _ _ _ _ _ => by exact (g_nm 6 nd)) (fun _ _ _ _ _ => by exact (ts_one (t_nin hK hu (x_ix hK hu (x_ix hK hu (x_v 2) (x_v 6)) x_i) (x_v 4)))) (fun _ _ _ _ _ => by exact (x_ix hK hu (x_ix hK hu (x_v 2) (x_v 6)) x_i))))
      (ss_one (y_aug 5 nd x_i))))
      (ss_frz 4 (ss_one (y_ret (x_v 4)))))))))
  exact ⟨_, h.pe, h.so⟩
theorem sc_is_behind : FnScope ["reach", "hall", "halls_left", "other"] ["reach", "hall", "halls_left"] (defScope s_is_behind) := ⟨rfl, rfl, rfl, by decide +kernel, rfl, by decide +kernel, by decide +kernel⟩
theorem ok_is_behind {f : Addr} {fd : FuncData} (F : Fun K "is_behind" "is_behind" s_is_behind f fd) (hm : mg "is_behind" = some (.ref f)) (B : Bi mg)  : Callee P w K mg base 1 "is_behind" sp_is_behind := by
  refine ⟨f, fd, ["reach", "hall", "halls_left"], fn_pw (wS := w_is_behind) F sc_is_behind l_is_behind (fun cdv A outer s H E hr => ?_) p_is_behind, hm, F.kp, F.binds fun _ _ _ _ _ _ us hl => match us, hl with | [_, _, _], _ => rfl⟩
  have hu := hr.units
  have nd := sc_is_behind.nd
  have hK : (cxOf CX0 P w K mg base ["reach", "hall", "halls_left", "other"] "is_behind" (defScope s_is_behind) f cdv A outer s H E).nox.K = K := rfl
  have h : PSsw K (cxOf CX0 P w K mg base ["reach", "hall", "halls_left", "other"] "is_behind" (defScope s_is_behind) f cdv A outer s H E).nox (defBody s_is_behind) _ w_is_behind := (ss_one (y_ret (x_any B hK rfl (a_cons (x_fz (n_lc [("other", 3)] rfl nd (i_seq hK (x_v 2)) (fun _ _ _ _ _ => by exact (g_nm 3 nd)) (fun _ _ _ _ _ => by exact ts_nil) (fun _ _ _ _ _ => by exact (n_nw (x_and (x_ne hK hu (x_v 3) (x_v 1)) (x_one (x_in hK hu (x_ix hK hu (x_v 1) x_i) (x_ix hK hu (x_v 0) (x_ix hK hu (x_v 3) x_i))))))))) a_nil))))
  exact ⟨_, h.pe, h.so⟩
theorem sc_halls : FnScope ["works", "names", "reach", "left", "name", "found", "hall", "ready", "other"] ["works"] (defScope s_halls) := ⟨rfl, rfl, rfl, by decide +kernel, rfl, by decide +kernel, by decide +kernel⟩
theorem ok_halls {f : Addr} {fd : FuncData} (F : Fun K "halls" "halls" s_halls f fd) (hm : mg "halls" = some (.ref f)) (B : Bi mg) (c_names_of : Callee P w K mg base 1 "names_of" sp_names_of) (c_reached_from : Callee P w K mg base 2 "reached_from" sp_reached_from) (c_is_behind : Callee P w K mg base 1 "is_behind" sp_is_behind) : Callee P w K mg base 3 "halls" sp_halls := by
  refine ⟨f, fd, ["works"], fn_pw (wS := w_halls) F sc_halls l_halls (fun cdv A outer s H E hr => ?_) p_halls, hm, F.kp, F.binds fun _ _ _ _ _ _ us hl => match us, hl with | [_], _ => rfl⟩
  have hu := hr.units
  have nd := sc_halls.nd
  have hK : (cxOf CX0 P w K mg base ["works", "names", "reach", "left", "name", "found", "hall", "ready", "other"] "halls" (defScope s_halls) f cdv A outer s H E).nox.K = K := rfl
  have h : PSsw K (cxOf CX0 P w K mg base ["works", "names", "reach", "left", "name", "found", "hall", "ready", "other"] "halls" (defScope s_halls) f cdv A outer s H E).nox (defBody s_halls) _ w_halls := (ss_cons (y_asg 1 nd (x_call hK c_names_of hr (by decide) (a_cons (x_v 0) a_nil)))
      (ss_cons (y_asg 2 nd (x_fz (n_dc [("name", 4)] rfl nd (i_seq hK (x_v 1)) (fun _ _ _ _ _ => by exact (g_nm 4 nd)) (fun _ _ _ _ _ => by exact ts_nil) (fun _ _ _ _ _ => by exact (x_v 4)) (fun _ _ _ _ _ => by exact (n_nw (x_call hK c_reached_from hr (by decide) (a_cons (x_v 0) (a_cons (x_v 4) a_nil))))))))
      (ss_cons (y_new 3 nd (n_lst a_nil))
      (ss_cons (y_for PassesOwn.never rfl (i_seq hK (x_v 1)) (g_nm 4 nd) (ss_cons (y_asg 6 nd (x_tuple B hK (a_cons (x_sortS B hK (a_cons (x_fz (n_lc [("other", 8)] rfl nd (i_seq hK (x_ix hK hu (x_v 2) (x_v 4))) (fun _ _ _ _ _ => by exact (g_nm 8 nd)) (fun _ _ _ _ _ => by exact (ts_one (t_in hK hu (x_v 4) (x_ix hK hu (x_v 2) (x_v 8))))) (fun _ _ _ _ _ => by exact (n_nw (x_v 8))))) a_nil)) a_nil)))
      (ss_one (y_if (t_ninD hK (u65 hr) (x_v 6) (x_v 3)) (ss_one (y_app 3 hK (x_v 6))) ss_nil))))
      (ss_cons (y_new 5 nd (n_lst a_nil))
      (ss_cons (y_while PassesOwn.never (t_tru hK (x_v 3)) (ss_cons (y_newLcL 7 3 [("hall", 6)] rfl nd (i_seq hK (x_v 3)) (fun _ _ _ _ _ => by exact (g_nm 6 nd)) (fun _ _ _ _ _ => by exact (ts_one (t_not (t_of (x_call hK c_is_behind hr (by decide) (a_cons (x_v 2) (a_cons (x_v 6) (a_cons (x_v 3) a_nil)))))))) (fun _ _ _ _ _ => by exact (n_nw (x_v 6))))
      (ss_cons (y_app 5 hK (x_min1 B hK rfl hu (a_cons (x_v 7) a_nil)))
      (ss_one (y_rem1 3 hK hu (x_min1 B hK rfl hu (a_cons (x_v 7) a_nil)))))))
      (ss_one (y_ret (x_tuple B hK (a_cons (x_v 5) a_nil))))))))))
  exact ⟨_, h.pe, h.so⟩
theorem sc_is_closed : FnScope ["works"] ["works"] (defScope s_is_closed) := ⟨rfl, rfl, rfl, by decide +kernel, rfl, by decide +kernel, by decide +kernel⟩
theorem ok_is_closed {f : Addr} {fd : FuncData} (F : Fun K "is_closed" "is_closed" s_is_closed f fd) (hm : mg "is_closed" = some (.ref f)) (B : Bi mg) (c_halls : Callee P w K mg base 3 "halls" sp_halls) : Callee P w K mg base 4 "is_closed" sp_is_closed := by
  refine ⟨f, fd, ["works"], fn_pw (wS := w_is_closed) F sc_is_closed l_is_closed (fun cdv A outer s H E hr => ?_) p_is_closed, hm, F.kp, F.binds fun _ _ _ _ _ _ us hl => match us, hl with | [_], _ => rfl⟩
  have hu := hr.units
  have nd := sc_is_closed.nd
  have hK : (cxOf CX0 P w K mg base ["works"] "is_closed" (defScope s_is_closed) f cdv A outer s H E).nox.K = K := rfl
  have h : PSsw K (cxOf CX0 P w K mg base ["works"] "is_closed" (defScope s_is_closed) f cdv A outer s H E).nox (defBody s_is_closed) _ w_is_closed := (ss_one (y_ret (x_eq hK hu (x_len B hK (a_cons (x_call hK c_halls hr (by decide) (a_cons (x_v 0) a_nil)) a_nil)) x_i)))
  exact ⟨_, h.pe, h.so⟩
theorem sc_on_ring : FnScope ["ties", "name", "leaving", "row", "at", "k"] ["ties", "name"] (defScope s_on_ring) := ⟨rfl, rfl, rfl, by decide +kernel, rfl, by decide +kernel, by decide +kernel⟩
theorem ok_on_ring {f : Addr} {fd : FuncData} (F : Fun K "on_ring" "on_ring" s_on_ring f fd) (hm : mg "on_ring" = some (.ref f)) (B : Bi mg) (c_leaving_of : Callee P w K mg base 1 "leaving_of" sp_leaving_of) : Callee P w K mg base 2 "on_ring" sp_on_ring := by
  refine ⟨f, fd, ["ties", "name"], fn_pw (wS := w_on_ring) F sc_on_ring l_on_ring (fun cdv A outer s H E hr => ?_) p_on_ring, hm, F.kp, F.binds fun _ _ _ _ _ _ us hl => match us, hl with | [_, _], _ => rfl⟩
  have hu := hr.units
  have nd := sc_on_ring.nd
  have hK : (cxOf CX0 P w K mg base ["ties", "name", "leaving", "row", "at", "k"] "on_ring" (defScope s_on_ring) f cdv A outer s H E).nox.K = K := rfl
  have h : PSsw K (cxOf CX0 P w K mg base ["ties", "name", "leaving", "row", "at", "k"] "on_ring" (defScope s_on_ring) f cdv A outer s H E).nox (defBody s_on_ring) _ w_on_ring := (ss_cons (y_asg 2 nd (x_call hK c_leaving_of hr (by decide) (a_cons (x_v 0) a_nil)))
      (ss_cons (y_new 3 nd (n_lc [("at", 4)] rfl nd (i_seq hK (x_get2 hu (x_v 2) (x_v 1) (x_fz (n_lst a_nil)))) (fun _ _ _ _ _ => by exact (g_nm 4 nd)) (fun _ _ _ _ _ => by exact ts_nil) (fun _ _ _ _ _ => by exact (n_nw (x_ix hK hu (x_ix hK hu (x_v 0) (x_v 4)) x_i)))))
      (ss_cons (y_asg 4 nd x_i)
      (ss_cons (y_while PassesOwn.never (t_lt (x_v 4) (x_len B hK (a_cons (x_v 3) a_nil))) (ss_cons (y_ext 3 hK (x_fz (n_lc [("k", 5)] rfl nd (i_seq hK (x_get2 hu (x_v 2) (x_ix hK hu (x_v 3) (x_v 4)) (x_fz (n_lst a_nil)))) (fun _ _ _ _ _ => by exact (g_nm 5 nd)) (fun _ _ _ _ _ => by exact (ts_one (t_nin hK hu (x_ix hK hu (x_ix hK hu (x_v 0) (x_v 5)) x_i) (x_v 3)))) (fun _ _ _ _ _ => by exact (n_nw (x_ix hK hu (x_ix hK hu (x_v 0) (x_v 5)) x_i))))))
      (ss_one (y_aug 4 nd x_i))))
      (ss_one (y_ret (x_in hK hu (x_v 1) (x_v 3))))))))
  exact ⟨_, h.pe, h.so⟩
theorem sc_has_ring : FnScope ["works", "ties", "name"] ["works"] (defScope s_has_ring) := ⟨rfl, rfl, rfl, by decide +kernel, rfl, by decide +kernel, by decide +kernel⟩
theorem ok_has_ring {f : Addr} {fd : FuncData} (F : Fun K "has_ring" "has_ring" s_has_ring f fd) (hm : mg "has_ring" = some (.ref f)) (B : Bi mg) (c_ties_of : Callee P w K mg base 1 "ties_of" sp_ties_of) (c_names_of : Callee P w K mg base 1 "names_of" sp_names_of) (c_on_ring : Callee P w K mg base 2 "on_ring" sp_on_ring) : Callee P w K mg base 3 "has_ring" sp_has_ring := by
  refine ⟨f, fd, ["works"], fn_pw (wS := w_has_ring) F sc_has_ring l_has_ring (fun cdv A outer s H E hr => ?_) p_has_ring, hm, F.kp, F.binds fun _ _ _ _ _ _ us hl => match us, hl with | [_], _ => rfl⟩
  have hu := hr.units
  have nd := sc_has_ring.nd
  have hK : (cxOf CX0 P w K mg base ["works", "ties", "name"] "has_ring" (defScope s_has_ring) f cdv A outer s H E).nox.K = K := rfl
  have h : PSsw K (cxOf CX0 P w K mg base ["works", "ties", "name"] "has_ring" (defScope s_has_ring) f cdv A outer s H E).nox (defBody s_has_ring) _ w_has_ring := (ss_cons (y_asg 1 nd (x_call hK c_ties_of hr (by decide) (a_cons (x_v 0) a_nil)))
      (ss_one (y_ret (x_any B hK rfl (a_cons (x_fz (n_lc [("name", 2)] rfl nd (i_seq hK (x_call hK c_names_of hr (by decide) (a_cons (x_v 0) a_nil))) (fun _ _ _ _ _ => by exact (g_nm 2 nd)) (fun _ _ _ _ _ => by exact ts_nil) (fun _ _ _ _ _ => by exact (n_nw (x_call hK c_on_ring hr (by decide) (a_cons (x_v 1) (a_cons (x_v 2) a_nil))))))) a_nil)))))
  exact ⟨_, h.pe, h.so⟩
theorem sc_check_closed : FnScope ["works"] ["works"] (defScope s_check_closed) := ⟨rfl, rfl, rfl, by decide +kernel, rfl, by decide +kernel, by decide +kernel⟩
theorem ok_check_closed {f : Addr} {fd : FuncData} (F : Fun K "check_closed" "check_closed" s_check_closed f fd) (hm : mg "check_closed" = some (.ref f)) (B : Bi mg) (c_check_endless : Callee P w K mg base 4 "check_endless" sp_check_endless) (c_is_closed : Callee P w K mg base 4 "is_closed" sp_is_closed) (c_has_ring : Callee P w K mg base 3 "has_ring" sp_has_ring) : Callee P w K mg base 5 "check_closed" sp_check_closed := by
  refine ⟨f, fd, ["works"], fn_pw (wS := w_check_closed) F sc_check_closed l_check_closed (fun cdv A outer s H E hr => ?_) p_check_closed, hm, F.kp, F.binds fun _ _ _ _ _ _ us hl => match us, hl with | [_], _ => rfl⟩
  have hu := hr.units
  have nd := sc_check_closed.nd
  have hK : (cxOf CX0 P w K mg base ["works"] "check_closed" (defScope s_check_closed) f cdv A outer s H E).nox.K = K := rfl
  have h : PSsw K (cxOf CX0 P w K mg base ["works"] "check_closed" (defScope s_check_closed) f cdv A outer s H E).nox (defBody s_check_closed) _ w_check_closed := (ss_cons (y_drop (x_call hK c_check_endless hr (by decide) (a_cons (x_v 0) a_nil)))
      (ss_one (y_if (t_bop (w_or (t_not (t_of (x_call hK c_is_closed hr (by decide) (a_cons (x_v 0) a_nil)))) (w_or1 (t_not (t_of (x_call hK c_has_ring hr (by decide) (a_cons (x_v 0) a_nil))))))) (ss_one y_never) ss_nil)))
  exact ⟨_, h.pe, h.so⟩
theorem sc_check_counts : FnScope ["works", "tie"] ["works"] (defScope s_check_counts) := ⟨rfl, rfl, rfl, by decide +kernel, rfl, by decide +kernel, by decide +kernel⟩
theorem ok_check_counts {f : Addr} {fd : FuncData} (F : Fun K "check_counts" "check_counts" s_check_counts f fd) (hm : mg "check_counts" = some (.ref f)) (B : Bi mg) (c_ties_of : Callee P w K mg base 1 "ties_of" sp_ties_of) {u_MAX_COUNT : Value} (h_MAX_COUNT : mg "MAX_COUNT" = some u_MAX_COUNT) (r_MAX_COUNT : L2.RelV (.int 200) u_MAX_COUNT) : Callee P w K mg base 2 "check_counts" sp_check_counts := by
  refine ⟨f, fd, ["works"], fn_pw (wS := w_check_counts) F sc_check_counts l_check_counts (fun cdv A outer s H E hr => ?_) p_check_counts, hm, F.kp, F.binds fun _ _ _ _ _ _ us hl => match us, hl with | [_], _ => rfl⟩
  have hu := hr.units
  have nd := sc_check_counts.nd
  have hK : (cxOf CX0 P w K mg base ["works", "tie"] "check_counts" (defScope s_check_counts) f cdv A outer s H E).nox.K = K := rfl
  have h : PSsw K (cxOf CX0 P w K mg base ["works", "tie"] "check_counts" (defScope s_check_counts) f cdv A outer s H E).nox (defBody s_check_counts) _ w_check_counts := (ss_one (y_if (t_gt (x_max B hK rfl (a_cons (x_fz (n_lc [("tie", 1)] rfl nd (i_seq hK (x_call hK c_ties_of hr (by decide) (a_cons (x_v 0) a_nil))) (fun _ _ _ _ _ => by exact (g_nm 1 nd)) (fun _ _ _ _ _ => by exact ts_nil) (fun _ _ _ _ _ => by exact (n_nw (x_ix hK hu (x_v 1) x_i))))) a_nil)) (x_gi h_MAX_COUNT r_MAX_COUNT)) (ss_one y_never) ss_nil))
  exact ⟨_, h.pe, h.so⟩
theorem sc_longest_times : FnScope ["works", "machine", "many", "ties", "times", "found", "count", "layer", "step", "at", "tie", "time"] ["works", "machine", "many"] (defScope s_longest_times) := ⟨rfl, rfl, rfl, by decide +kernel, rfl, by decide +kernel, by decide +kernel⟩
theorem ok_longest_times {f : Addr} {fd : FuncData} (F : Fun K "longest_times" "longest_times" s_longest_times f fd) (hm : mg "longest_times" = some (.ref f)) (B : Bi mg) (c_ties_of : Callee P w K mg base 1 "ties_of" sp_ties_of) (c_times_of : Callee P w K mg base 1 "times_of" sp_times_of) : Callee P w K mg base 2 "longest_times" sp_longest_times := by
  refine ⟨f, fd, ["works", "machine", "many"], fn_pw (wS := w_longest_times) F sc_longest_times l_longest_times (fun cdv A outer s H E hr => ?_) p_longest_times, hm, F.kp, F.binds fun _ _ _ _ _ _ us hl => match us, hl with | [_, _, _], _ => rfl⟩
  have hu := hr.units
  have nd := sc_longest_times.nd
  have hK : (cxOf CX0 P w K mg base ["works", "machine", "many", "ties", "times", "found", "count", "layer", "step", "at", "tie", "time"] "longest_times" (defScope s_longest_times) f cdv A outer s H E).nox.K = K := rfl
  have h : PSsw K (cxOf CX0 P w K mg base ["works", "machine", "many", "ties", "times", "found", "count", "layer", "step", "at", "tie", "time"] "longest_times" (defScope s_longest_times) f cdv A outer s H E).nox (defBody s_longest_times) _ _ := (ss_cons (y_asg 3 nd (x_call hK c_ties_of hr (by decide) (a_cons (x_v 0) a_nil)))
      (ss_cons (y_asg 4 nd (x_call hK c_times_of hr (by decide) (a_cons (x_v 0) a_nil)))
      (ss_cons (y_new 5 nd (n_lst a_nil))
      (ss_cons (y_for PassesOwn.never rfl (i_rg1 B (a_cons (x_add hK (x_v 2) x_i) a_nil)) (g_nm 6 nd) (ss_cons (y_asg 7 nd (x_if (t_eq hK hu (x_v 6) x_i) (x_fz (n_disp (d_cons (x_v 1) (x_tup (a_cons x_i (a_cons x_n a_nil))) d_nil))) (x_fz n_dk)))
      (ss_frz 7 (ss_cons (y_app 5 hK (x_v 7))
      (ss_one (y_for PassesOwn.never rfl (i_rg1 B (a_cons (x_add hK (x_len B hK (a_cons (x_ix hK hu (x_v 0) x_i) a_nil)) x_i) a_nil)) (g_nm 8 nd) (ss_one (y_for PassesOwn.never rfl (i_enum B hK (a_cons (x_v 3) a_nil)) (g_tp hK rfl (gs_cons (g_nm 9 nd) (gs_cons (g_nm 10 nd) gs_nil))) (ss_one (y_if (t_bop (w_and (t_le (x_ix hK hu (x_v 10) x_i) (x_v 6)) (w_and1 (t_in hK hu (x_ix hK hu (x_v 10) x_i) (x_ix hK hu (x_v 5) (x_sub (x_v 6) (x_ix hK hu (x_v 10) x_i))))))) (ss_cons (y_asg 11 nd (x_add hK (x_ix hK hu (x_ix hK hu (x_ix hK hu (x_v 5) (x_sub (x_v 6) (x_ix hK hu (x_v 10) x_i))) (x_ix hK hu (x_v 10) x_i)) x_i) (x_ix hK hu (x_v 4) (x_ix hK hu (x_v 10) x_i))))
      (ss_one (y_if (t_bop (w_or (t_nin hK hu (x_ix hK hu (x_v 10) x_i) (x_v 7)) (w_or1 (t_gt (x_v 11) (x_ix hK hu (x_ix hK hu (x_v 7) (x_ix hK hu (x_v 10) x_i)) x_i))))) (ss_one (y_set 7 hu (x_ix hK hu (x_v 10) x_i) (x_tup (a_cons (x_v 11) (a_cons (x_v 9) a_nil))))) ss_nil))) ss_nil))))))))))
      (ss_frz 5 (ss_one (y_ret (x_v 5))))))))
  exact ⟨_, h.pe, (so_seq (so_asg (so_call (so_cons so_var so_nil))) (so_seq (so_asg (so_call (so_cons so_var so_nil))) (so_seq (so_new (so_lst so_nil)) (so_seq (so_for (so_rg1 (so_cons (so_op so_var so_int sor_add) so_nil)) so_gn (so_seq (so_new (so_ifN (so_test (so_op so_var so_int sor_eqA)) (so_disp (.cons so_var (so_tup (so_cons so_int (so_cons so_non so_nil))) .nil)) so_dnewK)) (so_move (by decide) (sl_for (so_rg1 (so_cons (so_op (so_cb (so_cons (so_op so_var so_int sor_get) so_nil) soc_len) so_int sor_add) so_nil)) so_gn (sl_for (so_enum (so_cons so_var so_nil)) (so_gtup (so_gcons so_gn (so_gcons so_gn so_gnil)) rfl) (sl_if (SoT.l (so_and (so_test (so_op (so_op so_var so_int sor_get) so_var sor_le)) (so_test (so_op (so_op so_var so_int sor_get) (so_op so_var (so_op so_var (so_op so_var so_int sor_get) sor_sub) sor_get) sor_inA)))) (sl_seq (sl_asg (by decide) (by decide) (so_op (so_op (so_op (so_op so_var (so_op so_var (so_op so_var so_int sor_get) sor_sub) sor_get) (so_op so_var so_int sor_get) sor_get) so_int sor_get) (so_op so_var (so_op so_var so_int sor_get) sor_get) sor_add)) (sl_if (sl_or (sl_test (sl_op (so_op so_var so_int sor_get) sl_alias sor_inA)) (sl_test (sl_op so_var (sl_opL (sl_opL sl_alias (so_op so_var so_int sor_get) sor_get) so_int sor_get) sor_gt))) (sl_set (so_op so_var so_int sor_get) (so_tup (so_cons so_var (so_cons so_var so_nil)))) sl_next)) sl_next) (by decide) (by decide)) (by decide) (by decide))))) (so_frz (so_ret so_var))))))⟩
theorem sc_longest_path : FnScope ["works", "layers", "machine", "other", "count", "ties", "row", "place", "tie"] ["works", "layers", "machine", "other", "count"] (defScope s_longest_path) := ⟨rfl, rfl, rfl, by decide +kernel, rfl, by decide +kernel, by decide +kernel⟩
theorem ok_longest_path {f : Addr} {fd : FuncData} (F : Fun K "longest_path" "longest_path" s_longest_path f fd) (hm : mg "longest_path" = some (.ref f)) (B : Bi mg) (c_ties_of : Callee P w K mg base 1 "ties_of" sp_ties_of) : Callee P w K mg base 2 "longest_path" sp_longest_path := by
  refine ⟨f, fd, ["works", "layers", "machine", "other", "count"], fn_pw (wS := w_longest_path) F sc_longest_path l_longest_path (fun cdv A outer s H E hr => ?_) p_longest_path, hm, F.kp, F.binds fun _ _ _ _ _ _ us hl => match us, hl with | [_, _, _, _, _], _ => rfl⟩
  have hu := hr.units
  have nd := sc_longest_path.nd
  have hK : (cxOf CX0 P w K mg base ["works", "layers", "machine", "other", "count", "ties", "row", "place", "tie"] "longest_path" (defScope s_longest_path) f cdv A outer s H E).nox.K = K := rfl
  have h : PSsw K (cxOf CX0 P w K mg base ["works", "layers", "machine", "other", "count", "ties", "row", "place", "tie"] "longest_path" (defScope s_longest_path) f cdv A outer s H E).nox (defBody s_longest_path) _ w_longest_path := (ss_cons (y_asg 5 nd (x_call hK c_ties_of hr (by decide) (a_cons (x_v 0) a_nil)))
      (ss_cons (y_new 6 nd (n_lst a_nil))
      (ss_cons (y_asg 7 nd (x_v 3))
      (ss_cons (y_while PassesOwn.never (t_notn (x_ix hK hu (x_ix hK hu (x_ix hK hu (x_v 1) (x_v 4)) (x_v 7)) x_i) x_n) (ss_cons (y_asg 8 nd (x_ix hK hu (x_v 5) (x_ix hK hu (x_ix hK hu (x_ix hK hu (x_v 1) (x_v 4)) (x_v 7)) x_i)))
      (ss_cons (y_app 6 hK (x_ix hK hu (x_v 8) x_i))
      (ss_cons (y_asg 7 nd (x_ix hK hu (x_v 8) x_i))
      (ss_one (y_augS 4 nd (x_ix hK hu (x_v 8) x_i)))))))
      (ss_one (y_ret (x_tuple B hK (a_cons (x_rev hK (x_v 6)) a_nil))))))))
  exact ⟨_, h.pe, h.so⟩
theorem sc_slack : FnScope ["works", "machine", "k", "other", "later", "layers", "names", "table", "time", "number"] ["works", "machine", "k", "other", "later"] (defScope s_slack) := ⟨rfl, rfl, rfl, by decide +kernel, rfl, by decide +kernel, by decide +kernel⟩
theorem ok_slack {f : Addr} {fd : FuncData} (F : Fun K "slack" "slack" s_slack f fd) (hm : mg "slack" = some (.ref f)) (B : Bi mg) (c_check_closed : Callee P w K mg base 5 "check_closed" sp_check_closed) (c_check_counts : Callee P w K mg base 2 "check_counts" sp_check_counts) (c_longest_times : Callee P w K mg base 2 "longest_times" sp_longest_times) (c_names_of : Callee P w K mg base 1 "names_of" sp_names_of) (c_rounds : Callee P w K mg base 3 "rounds" sp_rounds) (c_longest_path : Callee P w K mg base 2 "longest_path" sp_longest_path) {u_MAX_ROUND : Value} (h_MAX_ROUND : mg "MAX_ROUND" = some u_MAX_ROUND) (r_MAX_ROUND : L2.RelV (.int 400) u_MAX_ROUND) : Callee P w K mg base 6 "slack" sp_slack := by
  refine ⟨f, fd, ["works", "machine", "k", "other", "later"], fn_pw (wS := w_slack) F sc_slack l_slack (fun cdv A outer s H E hr => ?_) p_slack, hm, F.kp, F.binds fun _ _ _ _ _ _ us hl => match us, hl with | [_, _, _, _, _], _ => rfl⟩
  have hu := hr.units
  have nd := sc_slack.nd
  have hK : (cxOf CX0 P w K mg base ["works", "machine", "k", "other", "later", "layers", "names", "table", "time", "number"] "slack" (defScope s_slack) f cdv A outer s H E).nox.K = K := rfl
  have h : PSsw K (cxOf CX0 P w K mg base ["works", "machine", "k", "other", "later", "layers", "names", "table", "time", "number"] "slack" (defScope s_slack) f cdv A outer s H E).nox (defBody s_slack) _ w_slack := (ss_cons (y_drop (x_call hK c_check_closed hr (by decide) (a_cons (x_v 0) a_nil)))
      (ss_cons (y_drop (x_call hK c_check_counts hr (by decide) (a_cons (x_v 0) a_nil)))
      (ss_cons (y_if (t_gt (x_v 4) (x_gi h_MAX_ROUND r_MAX_ROUND)) (ss_one y_never) ss_nil)
      (ss_cons (y_if (t_lt (x_v 4) (x_v 2)) (ss_one (y_ret (x_tup (a_cons x_n (a_cons x_n a_nil))))) ss_nil)
      (ss_cons (y_asg 5 nd (x_call hK c_longest_times hr (by decide) (a_cons (x_v 0) (a_cons (x_v 1) (a_cons (x_sub (x_v 4) (x_v 2)) a_nil)))))
      (ss_cons (y_if (t_nin hK hu (x_v 3) (x_ix hK hu (x_v 5) (x_sub (x_v 4) (x_v 2)))) (ss_one (y_ret (x_tup (a_cons x_n (a_cons x_n a_nil))))) ss_nil)
      (ss_cons (y_asg 6 nd (x_call hK c_names_of hr (by decide) (a_cons (x_v 0) a_nil)))
      (ss_cons (y_asg 7 nd (x_call hK c_rounds hr (by decide) (a_cons (x_v 0) (a_cons (x_add hK (x_v 4) x_i) (a_cons (x_fz n_dt) a_nil)))))
      (ss_cons (y_asg 8 nd (x_ix hK hu (x_ix hK hu (x_ix hK hu (x_v 5) (x_sub (x_v 4) (x_v 2))) (x_v 3)) x_i))
      (ss_cons (y_asg 9 nd (x_sub (x_sub (x_ix hK hu (x_ix hK hu (x_v 7) (x_index hK (x_v 6) (a_cons (x_v 3) a_nil))) (x_v 4)) (x_ix hK hu (x_ix hK hu (x_v 7) (x_index hK (x_v 6) (a_cons (x_v 1) a_nil))) (x_v 2))) (x_v 8)))
      (ss_one (y_ret (x_tup (a_cons (x_v 9) (a_cons (x_call hK c_longest_path hr (by decide) (a_cons (x_v 0) (a_cons (x_v 5) (a_cons (x_v 1) (a_cons (x_v 3) (a_cons (x_sub (x_v 4) (x_v 2)) a_nil)))))) a_nil)))))))))))))))
  exact ⟨_, h.pe, h.so⟩
theorem sc_law_times : FnScope ["works", "times", "name", "time"] ["works"] (defScope s_law_times) := ⟨rfl, rfl, rfl, by decide +kernel, rfl, by decide +kernel, by decide +kernel⟩
theorem ok_law_times {f : Addr} {fd : FuncData} (F : Fun K "_law_times" "_law_times" s_law_times f fd) (hm : mg "_law_times" = some (.ref f)) (B : Bi mg)  : Callee P w K mg base 1 "_law_times" sp_law_times := by
  refine ⟨f, fd, ["works"], fn_pw (wS := w_law_times) F sc_law_times l_law_times (fun cdv A outer s H E hr => ?_) p_law_times, hm, F.kp, F.binds fun _ _ _ _ _ _ us hl => match us, hl with | [_], _ => rfl⟩
  have hu := hr.units
  have nd := sc_law_times.nd
  have hK : (cxOf CX0 P w K mg base ["works", "times", "name", "time"] "_law_times" (defScope s_law_times) f cdv A outer s H E).nox.K = K := rfl
  have h : PSsw K (cxOf CX0 P w K mg base ["works", "times", "name", "time"] "_law_times" (defScope s_law_times) f cdv A outer s H E).nox (defBody s_law_times) _ w_law_times := (ss_cons (y_new 1 nd n_dk)
      (ss_cons (y_for PassesOwn.never rfl (i_seq hK (x_ix hK hu (x_v 0) x_i)) (g_tp hK rfl (gs_cons (g_nm 2 nd) (gs_cons (g_nm 3 nd) gs_nil))) (ss_one (y_set 1 hu (x_v 2) (x_v 3))))
      (ss_frz 1 (ss_one (y_ret (x_v 1))))))
  exact ⟨_, h.pe, h.so⟩
theorem sc_law_rounds : FnScope ["works", "many", "late", "names", "times", "rows", "ways", "order", "step", "k", "at", "name", "due", "tie", "way"] ["works", "many", "late"] (defScope s_law_rounds) := ⟨rfl, rfl, rfl, by decide +kernel, rfl, by decide +kernel, by decide +kernel⟩
theorem ok_law_rounds {f : Addr} {fd : FuncData} (F : Fun K "_law_rounds" "_law_rounds" s_law_rounds f fd) (hm : mg "_law_rounds" = some (.ref f)) (B : Bi mg) (c_law_name_list : Callee P w K mg base 1 "_law_name_list" sp_law_name_list) (c_law_times : Callee P w K mg base 1 "_law_times" sp_law_times) (c_law_ties : Callee P w K mg base 1 "_law_ties" sp_law_ties) : Callee P w K mg base 2 "_law_rounds" sp_law_rounds := by
  refine ⟨f, fd, ["works", "many", "late"], fn_pw (wS := w_law_rounds) F sc_law_rounds l_law_rounds (fun cdv A outer s H E hr => ?_) p_law_rounds, hm, F.kp, F.binds fun _ _ _ _ _ _ us hl => match us, hl with | [_, _, _], _ => rfl⟩
  have hu := hr.units
  have nd := sc_law_rounds.nd
  have hK : (cxOf CX0 P w K mg base ["works", "many", "late", "names", "times", "rows", "ways", "order", "step", "k", "at", "name", "due", "tie", "way"] "_law_rounds" (defScope s_law_rounds) f cdv A outer s H E).nox.K = K := rfl
  have h : PSsw K (cxOf CX0 P w K mg base ["works", "many", "late", "names", "times", "rows", "ways", "order", "step", "k", "at", "name", "due", "tie", "way"] "_law_rounds" (defScope s_law_rounds) f cdv A outer s H E).nox (defBody s_law_rounds) _ w_law_rounds := (ss_cons (y_asg 3 nd (x_call hK c_law_name_list hr (by decide) (a_cons (x_v 0) a_nil)))
      (ss_cons (y_asg 4 nd (x_call hK c_law_times hr (by decide) (a_cons (x_v 0) a_nil)))
      (ss_cons (y_new 5 nd (n_lc [("name", 11)] rfl nd (i_seq hK (x_v 3)) (fun _ _ _ _ _ => by exact (g_nm 11 nd)) (fun _ _ _ _ _ => by exact ts_nil) (fun _ _ _ _ _ => by exact (n_lst a_nil))))
      (ss_cons (y_asgLc 6 [("name", 11)] rfl nd (i_seq hK (x_v 3)) (fun _ _ _ _ _ => by exact (g_nm 11 nd)) (fun _ _ _ _ _ => by exact ts_nil) (fun _ _ _ _ _ => by exact (n_nw (x_fz (n_lc [("tie", 13)] rfl nd (i_seq hK (x_call hK c_law_ties hr (by decide) (a_cons (x_v 0) a_nil))) (fun _ _ _ _ _ => by exact (g_nm 13 nd)) (fun _ _ _ _ _ => by exact (ts_one (t_eq hK hu (x_ix hK hu (x_v 13) x_i) (x_v 11)))) (fun _ _ _ _ _ => by exact (n_nw (x_tup (a_cons (x_index hK (x_v 3) (a_cons (x_ix hK hu (x_v 13) x_i) a_nil)) (a_cons (x_ix hK hu (x_v 13) x_i) (a_cons (x_ix hK hu (x_v 4) (x_ix hK hu (x_v 13) x_i)) a_nil)))))))))))
      (ss_cons (y_new 7 nd (n_lst a_nil))
      (ss_cons (y_for PassesOwn.never rfl (i_rg1 B (a_cons (x_len B hK (a_cons (x_v 3) a_nil)) a_nil)) (g_nm 8 nd) (ss_one (y_for PassesOwn.never rfl (i_rg1 B (a_cons (x_len B hK (a_cons (x_v 3) a_nil)) a_nil)) (g_nm 10 nd) (ss_one (y_if (t_bop (w_and (t_nin hK hu (x_v 10) (x_v 7)) (w_and1 (t_of (x_all B hK rfl (a_cons (x_fz (n_lc [("way", 14)] rfl nd (i_seq hK (x_ix hK hu (x_v 6) (x_v 10))) (fun _ _ _ _ _ => by exact (g_nm 14 nd)) (fun _ _ _ _ _ => by exact (ts_one (t_eq hK hu (x_ix hK hu (x_v 14) x_i) x_i))) (fun _ _ _ _ _ => by exact (n_nw (x_in hK hu (x_ix hK hu (x_v 14) x_i) (x_v 7)))))) a_nil)))))) (ss_one (y_app 7 hK (x_v 10))) ss_nil)))))
      (ss_cons (y_for PassesOwn.never rfl (i_rg1 B (a_cons (x_v 1) a_nil)) (g_nm 9 nd) (ss_frz 7 (ss_one (y_for PassesOwn.never rfl (i_seq hK (x_v 7)) (g_nm 10 nd) (ss_cons (y_asgLc 12 [("way", 14)] rfl nd (i_seq hK (x_ix hK hu (x_v 6) (x_v 10))) (fun _ _ _ _ _ => by exact (g_nm 14 nd)) (fun _ _ _ _ _ => by exact (ts_one (t_le (x_ix hK hu (x_v 14) x_i) (x_v 9)))) (fun _ _ _ _ _ => by exact (n_nw (x_add hK (x_ix hK hu (x_ix hK hu (x_v 5) (x_ix hK hu (x_v 14) x_i)) (x_sub (x_v 9) (x_ix hK hu (x_v 14) x_i))) (x_ix hK hu (x_v 14) x_i)))))
      (ss_one (y_app2 5 hK hu (x_v 10) (x_add hK (x_max B hK rfl (a_cons (x_add hK (x_fz (n_lst (a_cons x_i a_nil))) (x_v 12)) a_nil)) (x_get2 hu (x_v 2) (x_tup (a_cons (x_v 10) (a_cons (x_v 9) a_nil))) x_i)))))))))
      (ss_frz 5 (ss_one (y_ret (x_v 5)))))))))))
  exact ⟨_, h.pe, h.so⟩
theorem sc_ties_waited : FnScope ["works", "machine", "k", "table", "found", "tie", "begin", "count"] ["works", "machine", "k"] (defScope s_ties_waited) := ⟨rfl, rfl, rfl, by decide +kernel, rfl, by decide +kernel, by decide +kernel⟩
theorem ok_ties_waited {f : Addr} {fd : FuncData} (F : Fun K "ties_waited" "ties_waited" s_ties_waited f fd) (hm : mg "ties_waited" = some (.ref f)) (B : Bi mg) (c_check_endless : Callee P w K mg base 4 "check_endless" sp_check_endless) (c_rounds : Callee P w K mg base 3 "rounds" sp_rounds) (c_times_of : Callee P w K mg base 1 "times_of" sp_times_of) (c_names_of : Callee P w K mg base 1 "names_of" sp_names_of) (c_waited_ties : Callee P w K mg base 2 "waited_ties" sp_waited_ties) : Callee P w K mg base 5 "ties_waited" sp_ties_waited := by
  refine ⟨f, fd, ["works", "machine", "k"], fn_pw (wS := w_ties_waited) F sc_ties_waited l_ties_waited (fun cdv A outer s H E hr => ?_) p_ties_waited, hm, F.kp, F.binds fun _ _ _ _ _ _ us hl => match us, hl with | [_, _, _], _ => rfl⟩
  have hu := hr.units
  have nd := sc_ties_waited.nd
  have hK : (cxOf CX0 P w K mg base ["works", "machine", "k", "table", "found", "tie", "begin", "count"] "ties_waited" (defScope s_ties_waited) f cdv A outer s H E).nox.K = K := rfl
  have h : PSsw K (cxOf CX0 P w K mg base ["works", "machine", "k", "table", "found", "tie", "begin", "count"] "ties_waited" (defScope s_ties_waited) f cdv A outer s H E).nox (defBody s_ties_waited) _ w_ties_waited := (ss_cons (y_drop (x_call hK c_check_endless hr (by decide) (a_cons (x_v 0) a_nil)))
      (ss_cons (y_asg 3 nd (x_call hK c_rounds hr (by decide) (a_cons (x_v 0) (a_cons (x_add hK (x_v 2) x_i) (a_cons (x_fz n_dt) a_nil)))))
      (ss_cons (y_asg 4 nd (x_call hK c_waited_ties hr (by decide) (a_cons (x_v 0) (a_cons (x_call hK c_names_of hr (by decide) (a_cons (x_v 0) a_nil)) (a_cons (x_call hK c_times_of hr (by decide) (a_cons (x_v 0) a_nil)) (a_cons (x_v 3) (a_cons (x_v 1) (a_cons (x_v 2) a_nil))))))))
      (ss_one (y_ret (x_tuple B hK (a_cons (x_fz (n_lc [("tie", 5), ("begin", 6), ("count", 7)] rfl nd (i_seq hK (x_v 4)) (fun _ _ _ _ _ => by exact (g_tp hK rfl (gs_cons (g_nm 5 nd) (gs_cons (g_nm 6 nd) (gs_cons (g_nm 7 nd) gs_nil))))) (fun _ _ _ _ _ => by exact ts_nil) (fun _ _ _ _ _ => by exact (n_nw (x_v 5))))) a_nil)))))))
  exact ⟨_, h.pe, h.so⟩
theorem sc_law : FnScope ["script", "box", "works", "names", "machine", "k", "known", "step", "rows", "times", "tie", "one", "early", "late", "other", "two", "begin", "first", "path", "place", "at", "told", "later", "start", "goal", "count", "due"] ["script"] (defScope s_law) := ⟨rfl, rfl, rfl, by decide +kernel, rfl, by decide +kernel, by decide +kernel⟩
/-- LAW body behind the box -/
theorem body_law {f : Addr} (B : Bi mg) (c_law_closed : Callee P w K mg base 6 "_law_closed" sp_law_closed) (c_law_name_list : Callee P w K mg base 1 "_law_name_list" sp_law_name_list) (c_law_pick : Callee P w K mg base 2 "_law_pick" sp_law_pick) (c_law_take : Callee P w K mg base 1 "_law_take" sp_law_take) (c_cause_of : Callee P w K mg base 5 "cause_of" sp_cause_of) (c_law_known : Callee P w K mg base 2 "_law_known" sp_law_known) (c_slack : Callee P w K mg base 6 "slack" sp_slack) (c_law_rounds : Callee P w K mg base 2 "_law_rounds" sp_law_rounds) (c_law_times : Callee P w K mg base 1 "_law_times" sp_law_times) (c_ties_waited : Callee P w K mg base 5 "ties_waited" sp_ties_waited) (cdv : Value) (A : Around) (outer : List PySem.Env) (s : Shared) (H : Hp) (E : XK) (hr : Room 6 (A.deeper (envOfC "law" (defScope s_law) s.heap.objs.size f cdv))) : ∃ t, PSsw K (cxOf CX0 P w K mg base ["script", "box", "works", "names", "machine", "k", "known", "step", "rows", "times", "tie", "one", "early", "late", "other", "two", "begin", "first", "path", "place", "at", "told", "later", "start", "goal", "count", "due"] "law" (defScope s_law) f cdv A outer s H E).nox (defBody s_law).tail t w_law := by
  have hu := hr.units
  have nd := sc_law.nd
  have hK : (cxOf CX0 P w K mg base ["script", "box", "works", "names", "machine", "k", "known", "step", "rows", "times", "tie", "one", "early", "late", "other", "two", "begin", "first", "path", "place", "at", "told", "later", "start", "goal", "count", "due"] "law" (defScope s_law) f cdv A outer s H E).nox.K = K := rfl
  exact ⟨_, (ss_cons (y_asg 2 nd (x_call hK c_law_closed hr (by decide) (a_cons (x_v 1) (a_cons x_i (a_cons x_i (a_cons x_i a_nil))))))
      (ss_cons (y_asg 3 nd (x_call hK c_law_name_list hr (by decide) (a_cons (x_v 2) a_nil)))
      (ss_cons (y_asg 4 nd (x_call hK c_law_pick hr (by decide) (a_cons (x_v 1) (a_cons (x_v 3) a_nil))))
      (ss_cons (y_asg 5 nd (x_call hK c_law_take hr (by decide) (a_cons (x_v 1) (a_cons x_i a_nil))))
      (ss_cons (y_tgt (x_call hK c_cause_of hr (by decide) (a_cons (x_v 2) (a_cons (x_v 4) (a_cons (x_v 5) a_nil)))) (g_tp hK rfl (gs_cons (g_nm 16 nd) (gs_cons (g_nm 17 nd) (gs_cons (g_nm 18 nd) gs_nil)))))
      (ss_cons (y_asg 6 nd (x_call hK c_law_known hr (by decide) (a_cons (x_v 2) a_nil)))
      (ss_cons (y_par2 19 20 rfl nd (a_cons (x_v 16) (a_cons (x_v 17) a_nil)))
      (ss_cons (y_for PassesOwn.never rfl (i_rg1 B (a_cons (x_add hK (x_len B hK (a_cons (x_v 18) a_nil)) x_i) a_nil)) (g_nm 7 nd) (ss_cons (y_asg 21 nd (x_call hK c_slack hr (by decide) (a_cons (x_v 2) (a_cons (x_v 19) (a_cons (x_v 20) (a_cons (x_v 4) (a_cons (x_v 5) a_nil)))))))
      (ss_cons (y_if (t_ne hK hu (x_ix hK hu (x_v 21) x_i) x_i) (ss_one (y_ret x_b)) ss_nil)
      (ss_one (y_if (t_lt (x_v 7) (x_len B hK (a_cons (x_v 18) a_nil))) (ss_cons (y_asg 20 nd (x_add hK (x_v 20) (x_ix hK hu (x_ix hK hu (x_v 6) (x_ix hK hu (x_v 18) (x_v 7))) x_i)))
      (ss_one (y_asg 19 nd (x_ix hK hu (x_ix hK hu (x_v 6) (x_ix hK hu (x_v 18) (x_v 7))) x_i)))) ss_nil)))))
      (ss_cons (y_if (t_ne hK hu (x_tup (a_cons (x_v 19) (a_cons (x_v 20) a_nil))) (x_tup (a_cons (x_v 4) (a_cons (x_v 5) a_nil)))) (ss_one (y_ret x_b)) ss_nil)
      (ss_cons (y_asg 8 nd (x_call hK c_law_rounds hr (by decide) (a_cons (x_v 2) (a_cons (x_add hK (x_v 5) x_i) (a_cons (x_fz n_dt) a_nil)))))
      (ss_cons (y_asg 9 nd (x_call hK c_law_times hr (by decide) (a_cons (x_v 2) a_nil)))
      (ss_cons (y_for PassesOwn.never rfl (i_seq hK (x_call hK c_ties_waited hr (by decide) (a_cons (x_v 2) (a_cons (x_v 4) (a_cons (x_v 5) a_nil))))) (g_nm 10 nd) (ss_cons (y_tgt (x_ix hK hu (x_v 6) (x_v 10)) (g_tp hK rfl (gs_cons (g_nm 23 nd) (gs_cons (g_nm 24 nd) (gs_cons (g_nm 25 nd) gs_nil)))))
      (ss_one (y_if (t_bop (w_or (t_ne hK hu (x_ix hK hu (x_call hK c_slack hr (by decide) (a_cons (x_v 2) (a_cons (x_v 23) (a_cons (x_sub (x_v 5) (x_v 25)) (a_cons (x_v 4) (a_cons (x_v 5) a_nil)))))) x_i) x_i) (w_or1 (t_ne hK hu (x_add hK (x_ix hK hu (x_ix hK hu (x_v 8) (x_index hK (x_v 3) (a_cons (x_v 23) a_nil))) (x_sub (x_v 5) (x_v 25))) (x_ix hK hu (x_v 9) (x_v 23))) (x_ix hK hu (x_ix hK hu (x_v 8) (x_index hK (x_v 3) (a_cons (x_v 4) a_nil))) (x_v 5)))))) (ss_one (y_ret x_b)) ss_nil))))
      (ss_cons (y_asg 11 nd (x_call hK c_law_take hr (by decide) (a_cons (x_v 1) (a_cons (x_len B hK (a_cons (x_v 3) a_nil)) a_nil))))
      (ss_cons (y_asg 12 nd (x_call hK c_law_take hr (by decide) (a_cons (x_v 1) (a_cons (x_add hK (x_v 5) x_i) a_nil))))
      (ss_cons (y_asg 13 nd (x_add hK x_i (x_call hK c_law_take hr (by decide) (a_cons (x_v 1) (a_cons x_i a_nil)))))
      (ss_cons (y_asg 14 nd (x_call hK c_law_rounds hr (by decide) (a_cons (x_v 2) (a_cons (x_add hK (x_v 5) x_i) (a_cons (x_fz (n_dispT hu (x_tup (a_cons (x_v 11) (a_cons (x_v 12) a_nil))) (x_v 13))) a_nil)))))
      (ss_cons (y_for PassesOwn.never rfl (i_rg1 B (a_cons (x_len B hK (a_cons (x_v 3) a_nil)) a_nil)) (g_nm 15 nd) (ss_one (y_for PassesOwn.never rfl (i_rg2 B (a_cons (x_v 12) (a_cons (x_add hK (x_v 5) x_i) a_nil))) (g_nm 22 nd) (ss_cons (y_asg 21 nd (x_call hK c_slack hr (by decide) (a_cons (x_v 2) (a_cons (x_ix hK hu (x_v 3) (x_v 11)) (a_cons (x_v 12) (a_cons (x_ix hK hu (x_v 3) (x_v 15)) (a_cons (x_v 22) a_nil)))))))
      (ss_cons (y_asg 26 nd (x_if (t_isn (x_ix hK hu (x_v 21) x_i) x_n) x_i (x_max B hK rfl (a_cons x_i (a_cons (x_sub (x_v 13) (x_ix hK hu (x_v 21) x_i)) a_nil)))))
      (ss_one (y_if (t_ne hK hu (x_sub (x_ix hK hu (x_ix hK hu (x_v 14) (x_v 15)) (x_v 22)) (x_ix hK hu (x_ix hK hu (x_v 8) (x_v 15)) (x_v 22))) (x_v 26)) (ss_one (y_ret x_b)) ss_nil)))))))
      (ss_one (y_ret x_b)))))))))))))))))))⟩
theorem ok_law {f : Addr} {fd : FuncData} (F : Fun K "law" "law" s_law f fd) (B : Bi mg) (c_law_box : CalleeB P w K mg base 2 "_law_box") (c_law_closed : Callee P w K mg base 6 "_law_closed" sp_law_closed) (c_law_name_list : Callee P w K mg base 1 "_law_name_list" sp_law_name_list) (c_law_pick : Callee P w K mg base 2 "_law_pick" sp_law_pick) (c_law_take : Callee P w K mg base 1 "_law_take" sp_law_take) (c_cause_of : Callee P w K mg base 5 "cause_of" sp_cause_of) (c_law_known : Callee P w K mg base 2 "_law_known" sp_law_known) (c_slack : Callee P w K mg base 6 "slack" sp_slack) (c_law_rounds : Callee P w K mg base 2 "_law_rounds" sp_law_rounds) (c_law_times : Callee P w K mg base 1 "_law_times" sp_law_times) (c_ties_waited : Callee P w K mg base 5 "ties_waited" sp_ties_waited) : FnOk P w K mg base CX0 7 f fd ["script"] (spLaw K) := by
  refine fn_law (wS := w_law) F sc_law (fun cdv A outer s H E hr => ?_) p_law
  have nd := sc_law.nd
  obtain ⟨t, h⟩ := body_law B c_law_closed c_law_name_list c_law_pick c_law_take c_cause_of c_law_known c_slack c_law_rounds c_law_times c_ties_waited cdv A outer s H E hr
  exact ⟨t, pss_cons (ps_box nd c_law_box hr (by decide)) h.pe, h.so⟩
theorem sc_law_take : FnScope ["box", "many", "at", "number"] ["box", "many"] (defScope s_law_take) := ⟨rfl, rfl, rfl, by decide +kernel, rfl, by decide +kernel, by decide +kernel⟩
theorem ok_law_take {f : Addr} {fd : FuncData} (F : Fun K "_law_take" "_law_take" s_law_take f fd) (hm : mg "_law_take" = some (.ref f)) (B : Bi mg)  : Callee P w K mg base 1 "_law_take" sp_law_take := by
  refine ⟨f, fd, ["box", "many"], fn_pw (wS := w_law_take) F sc_law_take l_law_take (fun cdv A outer s H E hr => ?_) p_law_take, hm, F.kp, F.binds fun _ _ _ _ _ _ us hl => match us, hl with | [_, _], _ => rfl⟩
  have hu := hr.units
  have nd := sc_law_take.nd
  have hK : (cxOf CX0 P w K mg base ["box", "many", "at", "number"] "_law_take" (defScope s_law_take) f cdv A outer s H E).nox.K = K := rfl
  have h : PSsw K (cxOf CX0 P w K mg base ["box", "many", "at", "number"] "_law_take" (defScope s_law_take) f cdv A outer s H E).nox (defBody s_law_take) _ w_law_take :=
    (ss_cons (y_asg 2 nd ⟨(x_ix hK hu (x_v 0) x_s).pe, so_bxAt⟩)
    (ss_cons ⟨(y_set 0 hu x_s (x_add hK (x_v 2) x_i)).pe, so_bxSet (so_op so_var so_int sor_add)⟩
    (ss_cons (y_asg 3 nd ⟨(x_ix hK hu (x_ix hK hu (x_v 0) x_s) (x_mod (x_int B (a_cons (x_v 2) a_nil)) (x_len B hK (a_cons (x_ix hK hu (x_v 0) x_s) a_nil)))).pe, so_bxNum⟩)
    (ss_one (y_ret (x_mod (x_int B (a_cons (x_add hK (x_v 3) (x_mul x_i (x_div (x_v 2) ⟨(x_len B hK (a_cons (x_ix hK hu (x_v 0) x_s) a_nil)).pe, so_bxLen⟩))) a_nil)) (x_v 1)))))))
  exact ⟨_, h.pe, h.so⟩
end
theorem all_mk {l : PySem.W.OpenLaw} {w : World} {K : PySem.W.Frag} {h : Heap} {mg : Str → Option Value} {fa f1 f2 f3 f4 f5 f6 f7 f8 f9 f10 f11 f12 f13 f14 f15 f16 f17 f18 f19 f20 f21 f22 f23 f24 f25 f26 f27 f28 f29 f30 f31 f32 f33 f34 f35 f36 f37 f38 f39 f40 : Addr} (X : K.In h) (G : h.Ns mainGlobals mg) (hfa : mg "law" = some (.ref fa))
    {od1 an1 od2 an2 od3 an3 od4 an4 od5 an5 od6 an6 od7 an7 od8 an8 od9 an9 od10 an10 od11 an11 od12 an12 od13 an13 od14 an14 od15 an15 od16 an16 od17 an17 od18 an18 od19 an19 od20 an20 od21 an21 od22 an22 od23 an23 od24 an24 od25 an25 od26 an26 od27 an27 od28 an28 od29 an29 od30 an30 od31 an31 od32 an32 od33 an33 od34 an34 od35 an35 od36 an36 od37 an37 od38 an38 od39 an39 od40 an40 : Option Addr} {sl1 sl2 sl3 sl4 sl5 sl6 sl7 sl8 sl9 sl10 sl11 sl12 sl13 sl14 sl15 sl16 sl17 sl18 sl19 sl20 sl21 sl22 sl23 sl24 sl25 sl26 sl27 sl28 sl29 sl30 sl31 sl32 sl33 sl34 sl35 sl36 sl37 sl38 sl39 sl40 : Array (Option Value)} {oc1 kV1 dc1 pm1 cd1 ct1 oc2 kV2 dc2 pm2 cd2 ct2 oc3 kV3 dc3 pm3 cd3 ct3 oc4 kV4 dc4 pm4 cd4 ct4 oc5 kV5 dc5 pm5 cd5 ct5 oc6 kV6 dc6 pm6 cd6 ct6 oc7 kV7 dc7 pm7 cd7 ct7 oc8 kV8 dc8 pm8 cd8 ct8 oc9 kV9 dc9 pm9 cd9 ct9 oc10 kV10 dc10 pm10 cd10 ct10 oc11 kV11 dc11 pm11 cd11 ct11 oc12 kV12 dc12 pm12 cd12 ct12 oc13 kV13 dc13 pm13 cd13 ct13 oc14 kV14 dc14 pm14 cd14 ct14 oc15 kV15 dc15 pm15 cd15 ct15 oc16 kV16 dc16 pm16 cd16 ct16 oc17 kV17 dc17 pm17 cd17 ct17 oc18 kV18 dc18 pm18 cd18 ct18 oc19 kV19 dc19 pm19 cd19 ct19 oc20 kV20 dc20 pm20 cd20 ct20 oc21 kV21 dc21 pm21 cd21 ct21 oc22 kV22 dc22 pm22 cd22 ct22 oc23 kV23 dc23 pm23 cd23 ct23 oc24 kV24 dc24 pm24 cd24 ct24 oc25 kV25 dc25 pm25 cd25 ct25 oc26 kV26 dc26 pm26 cd26 ct26 oc27 kV27 dc27 pm27 cd27 ct27 oc28 kV28 dc28 pm28 cd28 ct28 oc29 kV29 dc29 pm29 cd29 ct29 oc30 kV30 dc30 pm30 cd30 ct30 oc31 kV31 dc31 pm31 cd31 ct31 oc32 kV32 dc32 pm32 cd32 ct32 oc33 kV33 dc33 pm33 cd33 ct33 oc34 kV34 dc34 pm34 cd34 ct34 oc35 kV35 dc35 pm35 cd35 ct35 oc36 kV36 dc36 pm36 cd36 ct36 oc37 kV37 dc37 pm37 cd37 ct37 oc38 kV38 dc38 pm38 cd38 ct38 oc39 kV39 dc39 pm39 cd39 ct39 oc40 kV40 dc40 pm40 cd40 ct40 : Value}
    (a1 : PySem.W.nsIn K mainGlobals "_law_take" = some (some (.ref f1))) (l1 : K.lookup f1 = some ⟨oc1, od1, .func (PySem.W.fnOf "_law_take" "_law_take" (defArgs s_law_take) (defBody s_law_take) (defScope s_law_take) .none kV1 dc1 pm1 an1 cd1 ct1), sl1⟩) (c1 : PySem.W.codeIn K cd1 "_law_take" = true) (k1 : PySem.W.keepIn K (.ref f1) = true)
    (a2 : PySem.W.nsIn K mainGlobals "_law_digits" = some (some (.ref f2))) (l2 : K.lookup f2 = some ⟨oc2, od2, .func (PySem.W.fnOf "_law_digits" "_law_digits" (defArgs s_law_digits) (defBody s_law_digits) (defScope s_law_digits) .none kV2 dc2 pm2 an2 cd2 ct2), sl2⟩) (c2 : PySem.W.codeIn K cd2 "_law_digits" = true) (k2 : PySem.W.keepIn K (.ref f2) = true)
    (a3 : PySem.W.nsIn K mainGlobals "_law_box" = some (some (.ref f3))) (l3 : K.lookup f3 = some ⟨oc3, od3, .func (PySem.W.fnOf "_law_box" "_law_box" (defArgs s_law_box) (defBody s_law_box) (defScope s_law_box) .none kV3 dc3 pm3 an3 cd3 ct3), sl3⟩) (c3 : PySem.W.codeIn K cd3 "_law_box" = true) (k3 : PySem.W.keepIn K (.ref f3) = true)
    (a4 : PySem.W.nsIn K mainGlobals "_law_pick" = some (some (.ref f4))) (l4 : K.lookup f4 = some ⟨oc4, od4, .func (PySem.W.fnOf "_law_pick" "_law_pick" (defArgs s_law_pick) (defBody s_law_pick) (defScope s_law_pick) .none kV4 dc4 pm4 an4 cd4 ct4), sl4⟩) (c4 : PySem.W.codeIn K cd4 "_law_pick" = true) (k4 : PySem.W.keepIn K (.ref f4) = true)
    (a5 : PySem.W.nsIn K mainGlobals "_law_word" = some (some (.ref f5))) (l5 : K.lookup f5 = some ⟨oc5, od5, .func (PySem.W.fnOf "_law_word" "_law_word" (defArgs s_law_word) (defBody s_law_word) (defScope s_law_word) .none kV5 dc5 pm5 an5 cd5 ct5), sl5⟩) (c5 : PySem.W.codeIn K cd5 "_law_word" = true) (k5 : PySem.W.keepIn K (.ref f5) = true)
    (a6 : PySem.W.nsIn K mainGlobals "_law_names" = some (some (.ref f6))) (l6 : K.lookup f6 = some ⟨oc6, od6, .func (PySem.W.fnOf "_law_names" "_law_names" (defArgs s_law_names) (defBody s_law_names) (defScope s_law_names) .none kV6 dc6 pm6 an6 cd6 ct6), sl6⟩) (c6 : PySem.W.codeIn K cd6 "_law_names" = true) (k6 : PySem.W.keepIn K (.ref f6) = true)
    (a7 : PySem.W.nsIn K mainGlobals "_law_machines" = some (some (.ref f7))) (l7 : K.lookup f7 = some ⟨oc7, od7, .func (PySem.W.fnOf "_law_machines" "_law_machines" (defArgs s_law_machines) (defBody s_law_machines) (defScope s_law_machines) .none kV7 dc7 pm7 an7 cd7 ct7), sl7⟩) (c7 : PySem.W.codeIn K cd7 "_law_machines" = true) (k7 : PySem.W.keepIn K (.ref f7) = true)
    (a8 : PySem.W.nsIn K mainGlobals "_law_works" = some (some (.ref f8))) (l8 : K.lookup f8 = some ⟨oc8, od8, .func (PySem.W.fnOf "_law_works" "_law_works" (defArgs s_law_works) (defBody s_law_works) (defScope s_law_works) .none kV8 dc8 pm8 an8 cd8 ct8), sl8⟩) (c8 : PySem.W.codeIn K cd8 "_law_works" = true) (k8 : PySem.W.keepIn K (.ref f8) = true)
    (a9 : PySem.W.nsIn K mainGlobals "_law_lively" = some (some (.ref f9))) (l9 : K.lookup f9 = some ⟨oc9, od9, .func (PySem.W.fnOf "_law_lively" "_law_lively" (defArgs s_law_lively) (defBody s_law_lively) (defScope s_law_lively) .none kV9 dc9 pm9 an9 cd9 ct9), sl9⟩) (c9 : PySem.W.codeIn K cd9 "_law_lively" = true) (k9 : PySem.W.keepIn K (.ref f9) = true)
    (a10 : PySem.W.nsIn K mainGlobals "_law_closed" = some (some (.ref f10))) (l10 : K.lookup f10 = some ⟨oc10, od10, .func (PySem.W.fnOf "_law_closed" "_law_closed" (defArgs s_law_closed) (defBody s_law_closed) (defScope s_law_closed) .none kV10 dc10 pm10 an10 cd10 ct10), sl10⟩) (c10 : PySem.W.codeIn K cd10 "_law_closed" = true) (k10 : PySem.W.keepIn K (.ref f10) = true)
    (a11 : PySem.W.nsIn K mainGlobals "_law_name_list" = some (some (.ref f11))) (l11 : K.lookup f11 = some ⟨oc11, od11, .func (PySem.W.fnOf "_law_name_list" "_law_name_list" (defArgs s_law_name_list) (defBody s_law_name_list) (defScope s_law_name_list) .none kV11 dc11 pm11 an11 cd11 ct11), sl11⟩) (c11 : PySem.W.codeIn K cd11 "_law_name_list" = true) (k11 : PySem.W.keepIn K (.ref f11) = true)
    (a12 : PySem.W.nsIn K mainGlobals "ties_of" = some (some (.ref f12))) (l12 : K.lookup f12 = some ⟨oc12, od12, .func (PySem.W.fnOf "ties_of" "ties_of" (defArgs s_ties_of) (defBody s_ties_of) (defScope s_ties_of) .none kV12 dc12 pm12 an12 cd12 ct12), sl12⟩) (c12 : PySem.W.codeIn K cd12 "ties_of" = true) (k12 : PySem.W.keepIn K (.ref f12) = true)
    (a13 : PySem.W.nsIn K mainGlobals "names_of" = some (some (.ref f13))) (l13 : K.lookup f13 = some ⟨oc13, od13, .func (PySem.W.fnOf "names_of" "names_of" (defArgs s_names_of) (defBody s_names_of) (defScope s_names_of) .none kV13 dc13 pm13 an13 cd13 ct13), sl13⟩) (c13 : PySem.W.codeIn K cd13 "names_of" = true) (k13 : PySem.W.keepIn K (.ref f13) = true)
    (a14 : PySem.W.nsIn K mainGlobals "leaving_of" = some (some (.ref f14))) (l14 : K.lookup f14 = some ⟨oc14, od14, .func (PySem.W.fnOf "leaving_of" "leaving_of" (defArgs s_leaving_of) (defBody s_leaving_of) (defScope s_leaving_of) .none kV14 dc14 pm14 an14 cd14 ct14), sl14⟩) (c14 : PySem.W.codeIn K cd14 "leaving_of" = true) (k14 : PySem.W.keepIn K (.ref f14) = true)
    (a15 : PySem.W.nsIn K mainGlobals "order_or_ring" = some (some (.ref f15))) (l15 : K.lookup f15 = some ⟨oc15, od15, .func (PySem.W.fnOf "order_or_ring" "order_or_ring" (defArgs s_order_or_ring) (defBody s_order_or_ring) (defScope s_order_or_ring) .none kV15 dc15 pm15 an15 cd15 ct15), sl15⟩) (c15 : PySem.W.codeIn K cd15 "order_or_ring" = true) (k15 : PySem.W.keepIn K (.ref f15) = true)
    (a16 : PySem.W.nsIn K mainGlobals "goes_on" = some (some (.ref f16))) (l16 : K.lookup f16 = some ⟨oc16, od16, .func (PySem.W.fnOf "goes_on" "goes_on" (defArgs s_goes_on) (defBody s_goes_on) (defScope s_goes_on) .none kV16 dc16 pm16 an16 cd16 ct16), sl16⟩) (c16 : PySem.W.codeIn K cd16 "goes_on" = true) (k16 : PySem.W.keepIn K (.ref f16) = true)
    (a17 : PySem.W.nsIn K mainGlobals "check_endless" = some (some (.ref f17))) (l17 : K.lookup f17 = some ⟨oc17, od17, .func (PySem.W.fnOf "check_endless" "check_endless" (defArgs s_check_endless) (defBody s_check_endless) (defScope s_check_endless) .none kV17 dc17 pm17 an17 cd17 ct17), sl17⟩) (c17 : PySem.W.codeIn K cd17 "check_endless" = true) (k17 : PySem.W.keepIn K (.ref f17) = true)
    (a18 : PySem.W.nsIn K mainGlobals "times_of" = some (some (.ref f18))) (l18 : K.lookup f18 = some ⟨oc18, od18, .func (PySem.W.fnOf "times_of" "times_of" (defArgs s_times_of) (defBody s_times_of) (defScope s_times_of) .none kV18 dc18 pm18 an18 cd18 ct18), sl18⟩) (c18 : PySem.W.codeIn K cd18 "times_of" = true) (k18 : PySem.W.keepIn K (.ref f18) = true)
    (a19 : PySem.W.nsIn K mainGlobals "round_order" = some (some (.ref f19))) (l19 : K.lookup f19 = some ⟨oc19, od19, .func (PySem.W.fnOf "round_order" "round_order" (defArgs s_round_order) (defBody s_round_order) (defScope s_round_order) .none kV19 dc19 pm19 an19 cd19 ct19), sl19⟩) (c19 : PySem.W.codeIn K cd19 "round_order" = true) (k19 : PySem.W.keepIn K (.ref f19) = true)
    (a20 : PySem.W.nsIn K mainGlobals "inner_order" = some (some (.ref f20))) (l20 : K.lookup f20 = some ⟨oc20, od20, .func (PySem.W.fnOf "inner_order" "inner_order" (defArgs s_inner_order) (defBody s_inner_order) (defScope s_inner_order) .none kV20 dc20 pm20 an20 cd20 ct20), sl20⟩) (c20 : PySem.W.codeIn K cd20 "inner_order" = true) (k20 : PySem.W.keepIn K (.ref f20) = true)
    (a21 : PySem.W.nsIn K mainGlobals "rounds" = some (some (.ref f21))) (l21 : K.lookup f21 = some ⟨oc21, od21, .func (PySem.W.fnOf "rounds" "rounds" (defArgs s_rounds) (defBody s_rounds) (defScope s_rounds) .none kV21 dc21 pm21 an21 cd21 ct21), sl21⟩) (c21 : PySem.W.codeIn K cd21 "rounds" = true) (k21 : PySem.W.keepIn K (.ref f21) = true)
    (a22 : PySem.W.nsIn K mainGlobals "waited_ties" = some (some (.ref f22))) (l22 : K.lookup f22 = some ⟨oc22, od22, .func (PySem.W.fnOf "waited_ties" "waited_ties" (defArgs s_waited_ties) (defBody s_waited_ties) (defScope s_waited_ties) .none kV22 dc22 pm22 an22 cd22 ct22), sl22⟩) (c22 : PySem.W.codeIn K cd22 "waited_ties" = true) (k22 : PySem.W.keepIn K (.ref f22) = true)
    (a23 : PySem.W.nsIn K mainGlobals "cause_of" = some (some (.ref f23))) (l23 : K.lookup f23 = some ⟨oc23, od23, .func (PySem.W.fnOf "cause_of" "cause_of" (defArgs s_cause_of) (defBody s_cause_of) (defScope s_cause_of) .none kV23 dc23 pm23 an23 cd23 ct23), sl23⟩) (c23 : PySem.W.codeIn K cd23 "cause_of" = true) (k23 : PySem.W.keepIn K (.ref f23) = true)
    (a24 : PySem.W.nsIn K mainGlobals "_law_ties" = some (some (.ref f24))) (l24 : K.lookup f24 = some ⟨oc24, od24, .func (PySem.W.fnOf "_law_ties" "_law_ties" (defArgs s_law_ties) (defBody s_law_ties) (defScope s_law_ties) .none kV24 dc24 pm24 an24 cd24 ct24), sl24⟩) (c24 : PySem.W.codeIn K cd24 "_law_ties" = true) (k24 : PySem.W.keepIn K (.ref f24) = true)
    (a25 : PySem.W.nsIn K mainGlobals "_law_known" = some (some (.ref f25))) (l25 : K.lookup f25 = some ⟨oc25, od25, .func (PySem.W.fnOf "_law_known" "_law_known" (defArgs s_law_known) (defBody s_law_known) (defScope s_law_known) .none kV25 dc25 pm25 an25 cd25 ct25), sl25⟩) (c25 : PySem.W.codeIn K cd25 "_law_known" = true) (k25 : PySem.W.keepIn K (.ref f25) = true)
    (a26 : PySem.W.nsIn K mainGlobals "reached_from" = some (some (.ref f26))) (l26 : K.lookup f26 = some ⟨oc26, od26, .func (PySem.W.fnOf "reached_from" "reached_from" (defArgs s_reached_from) (defBody s_reached_from) (defScope s_reached_from) .none kV26 dc26 pm26 an26 cd26 ct26), sl26⟩) (c26 : PySem.W.codeIn K cd26 "reached_from" = true) (k26 : PySem.W.keepIn K (.ref f26) = true)
    (a27 : PySem.W.nsIn K mainGlobals "is_behind" = some (some (.ref f27))) (l27 : K.lookup f27 = some ⟨oc27, od27, .func (PySem.W.fnOf "is_behind" "is_behind" (defArgs s_is_behind) (defBody s_is_behind) (defScope s_is_behind) .none kV27 dc27 pm27 an27 cd27 ct27), sl27⟩) (c27 : PySem.W.codeIn K cd27 "is_behind" = true) (k27 : PySem.W.keepIn K (.ref f27) = true)
    (a28 : PySem.W.nsIn K mainGlobals "halls" = some (some (.ref f28))) (l28 : K.lookup f28 = some ⟨oc28, od28, .func (PySem.W.fnOf "halls" "halls" (defArgs s_halls) (defBody s_halls) (defScope s_halls) .none kV28 dc28 pm28 an28 cd28 ct28), sl28⟩) (c28 : PySem.W.codeIn K cd28 "halls" = true) (k28 : PySem.W.keepIn K (.ref f28) = true)
    (a29 : PySem.W.nsIn K mainGlobals "is_closed" = some (some (.ref f29))) (l29 : K.lookup f29 = some ⟨oc29, od29, .func (PySem.W.fnOf "is_closed" "is_closed" (defArgs s_is_closed) (defBody s_is_closed) (defScope s_is_closed) .none kV29 dc29 pm29 an29 cd29 ct29), sl29⟩) (c29 : PySem.W.codeIn K cd29 "is_closed" = true) (k29 : PySem.W.keepIn K (.ref f29) = true)
    (a30 : PySem.W.nsIn K mainGlobals "on_ring" = some (some (.ref f30))) (l30 : K.lookup f30 = some ⟨oc30, od30, .func (PySem.W.fnOf "on_ring" "on_ring" (defArgs s_on_ring) (defBody s_on_ring) (defScope s_on_ring) .none kV30 dc30 pm30 an30 cd30 ct30), sl30⟩) (c30 : PySem.W.codeIn K cd30 "on_ring" = true) (k30 : PySem.W.keepIn K (.ref f30) = true)
    (a31 : PySem.W.nsIn K mainGlobals "has_ring" = some (some (.ref f31))) (l31 : K.lookup f31 = some ⟨oc31, od31, .func (PySem.W.fnOf "has_ring" "has_ring" (defArgs s_has_ring) (defBody s_has_ring) (defScope s_has_ring) .none kV31 dc31 pm31 an31 cd31 ct31), sl31⟩) (c31 : PySem.W.codeIn K cd31 "has_ring" = true) (k31 : PySem.W.keepIn K (.ref f31) = true)
    (a32 : PySem.W.nsIn K mainGlobals "check_closed" = some (some (.ref f32))) (l32 : K.lookup f32 = some ⟨oc32, od32, .func (PySem.W.fnOf "check_closed" "check_closed" (defArgs s_check_closed) (defBody s_check_closed) (defScope s_check_closed) .none kV32 dc32 pm32 an32 cd32 ct32), sl32⟩) (c32 : PySem.W.codeIn K cd32 "check_closed" = true) (k32 : PySem.W.keepIn K (.ref f32) = true)
    (a33 : PySem.W.nsIn K mainGlobals "check_counts" = some (some (.ref f33))) (l33 : K.lookup f33 = some ⟨oc33, od33, .func (PySem.W.fnOf "check_counts" "check_counts" (defArgs s_check_counts) (defBody s_check_counts) (defScope s_check_counts) .none kV33 dc33 pm33 an33 cd33 ct33), sl33⟩) (c33 : PySem.W.codeIn K cd33 "check_counts" = true) (k33 : PySem.W.keepIn K (.ref f33) = true)
    (a34 : PySem.W.nsIn K mainGlobals "longest_times" = some (some (.ref f34))) (l34 : K.lookup f34 = some ⟨oc34, od34, .func (PySem.W.fnOf "longest_times" "longest_times" (defArgs s_longest_times) (defBody s_longest_times) (defScope s_longest_times) .none kV34 dc34 pm34 an34 cd34 ct34), sl34⟩) (c34 : PySem.W.codeIn K cd34 "longest_times" = true) (k34 : PySem.W.keepIn K (.ref f34) = true)
    (a35 : PySem.W.nsIn K mainGlobals "longest_path" = some (some (.ref f35))) (l35 : K.lookup f35 = some ⟨oc35, od35, .func (PySem.W.fnOf "longest_path" "longest_path" (defArgs s_longest_path) (defBody s_longest_path) (defScope s_longest_path) .none kV35 dc35 pm35 an35 cd35 ct35), sl35⟩) (c35 : PySem.W.codeIn K cd35 "longest_path" = true) (k35 : PySem.W.keepIn K (.ref f35) = true)
    (a36 : PySem.W.nsIn K mainGlobals "slack" = some (some (.ref f36))) (l36 : K.lookup f36 = some ⟨oc36, od36, .func (PySem.W.fnOf "slack" "slack" (defArgs s_slack) (defBody s_slack) (defScope s_slack) .none kV36 dc36 pm36 an36 cd36 ct36), sl36⟩) (c36 : PySem.W.codeIn K cd36 "slack" = true) (k36 : PySem.W.keepIn K (.ref f36) = true)
    (a37 : PySem.W.nsIn K mainGlobals "_law_times" = some (some (.ref f37))) (l37 : K.lookup f37 = some ⟨oc37, od37, .func (PySem.W.fnOf "_law_times" "_law_times" (defArgs s_law_times) (defBody s_law_times) (defScope s_law_times) .none kV37 dc37 pm37 an37 cd37 ct37), sl37⟩) (c37 : PySem.W.codeIn K cd37 "_law_times" = true) (k37 : PySem.W.keepIn K (.ref f37) = true)
    (a38 : PySem.W.nsIn K mainGlobals "_law_rounds" = some (some (.ref f38))) (l38 : K.lookup f38 = some ⟨oc38, od38, .func (PySem.W.fnOf "_law_rounds" "_law_rounds" (defArgs s_law_rounds) (defBody s_law_rounds) (defScope s_law_rounds) .none kV38 dc38 pm38 an38 cd38 ct38), sl38⟩) (c38 : PySem.W.codeIn K cd38 "_law_rounds" = true) (k38 : PySem.W.keepIn K (.ref f38) = true)
    (a39 : PySem.W.nsIn K mainGlobals "ties_waited" = some (some (.ref f39))) (l39 : K.lookup f39 = some ⟨oc39, od39, .func (PySem.W.fnOf "ties_waited" "ties_waited" (defArgs s_ties_waited) (defBody s_ties_waited) (defScope s_ties_waited) .none kV39 dc39 pm39 an39 cd39 ct39), sl39⟩) (c39 : PySem.W.codeIn K cd39 "ties_waited" = true) (k39 : PySem.W.keepIn K (.ref f39) = true)
    (a40 : PySem.W.nsIn K mainGlobals "law" = some (some (.ref f40))) (l40 : K.lookup f40 = some ⟨oc40, od40, .func (PySem.W.fnOf "law" "law" (defArgs s_law) (defBody s_law) (defScope s_law) .none kV40 dc40 pm40 an40 cd40 ct40), sl40⟩) (c40 : PySem.W.codeIn K cd40 "law" = true) (k40 : PySem.W.keepIn K (.ref f40) = true)
    (z1 : PySem.W.nsIn K mainGlobals "len" = some none)
    (z2 : PySem.W.nsIn K mainGlobals "int" = some none)
    (z3 : PySem.W.nsIn K mainGlobals "max" = some none)
    (z4 : PySem.W.nsIn K mainGlobals "min" = some none)
    (z5 : PySem.W.nsIn K mainGlobals "tuple" = some none)
    (z6 : PySem.W.nsIn K mainGlobals "list" = some none)
    (z7 : PySem.W.nsIn K mainGlobals "any" = some none)
    (z8 : PySem.W.nsIn K mainGlobals "all" = some none)
    (z9 : PySem.W.nsIn K mainGlobals "sum" = some none)
    (z10 : PySem.W.nsIn K mainGlobals "sorted" = some none)
    (z11 : PySem.W.nsIn K mainGlobals "range" = some none)
    (z12 : PySem.W.nsIn K mainGlobals "enumerate" = some none)
    {tk0 : Tok} (q0 : PySem.W.nsIn K mainGlobals "MAX_COUNT" = some (some (.int 200 tk0)))
    {tk1 : Tok} (q1 : PySem.W.nsIn K mainGlobals "MAX_ROUND" = some (some (.int 400 tk1))) :
    ∃ fd : FuncData, (∀ (s : Shared) (v : Value), BindsTo s fd ⟨[v], []⟩ [("script", v)]) ∧ ∀ base : Heap, K.In base → base.Ns mainGlobals mg → FnOk l.prog w K mg base CX0 7 fa fd ["script"] (spLaw K) := by
  have e := hfa.symm.trans (PySem.W.mg_of X G a40)
  cases e
  have F1 := fun_mk (st := s_law_take) l1 c1 k1
  have F2 := fun_mk (st := s_law_digits) l2 c2 k2
  have F3 := fun_mk (st := s_law_box) l3 c3 k3
  have F4 := fun_mk (st := s_law_pick) l4 c4 k4
  have F5 := fun_mk (st := s_law_word) l5 c5 k5
  have F6 := fun_mk (st := s_law_names) l6 c6 k6
  have F7 := fun_mk (st := s_law_machines) l7 c7 k7
  have F8 := fun_mk (st := s_law_works) l8 c8 k8
  have F9 := fun_mk (st := s_law_lively) l9 c9 k9
  have F10 := fun_mk (st := s_law_closed) l10 c10 k10
  have F11 := fun_mk (st := s_law_name_list) l11 c11 k11
  have F12 := fun_mk (st := s_ties_of) l12 c12 k12
  have F13 := fun_mk (st := s_names_of) l13 c13 k13
  have F14 := fun_mk (st := s_leaving_of) l14 c14 k14
  have F15 := fun_mk (st := s_order_or_ring) l15 c15 k15
  have F16 := fun_mk (st := s_goes_on) l16 c16 k16
  have F17 := fun_mk (st := s_check_endless) l17 c17 k17
  have F18 := fun_mk (st := s_times_of) l18 c18 k18
  have F19 := fun_mk (st := s_round_order) l19 c19 k19
  have F20 := fun_mk (st := s_inner_order) l20 c20 k20
  have F21 := fun_mk (st := s_rounds) l21 c21 k21
  have F22 := fun_mk (st := s_waited_ties) l22 c22 k22
  have F23 := fun_mk (st := s_cause_of) l23 c23 k23
  have F24 := fun_mk (st := s_law_ties) l24 c24 k24
  have F25 := fun_mk (st := s_law_known) l25 c25 k25
  have F26 := fun_mk (st := s_reached_from) l26 c26 k26
  have F27 := fun_mk (st := s_is_behind) l27 c27 k27
  have F28 := fun_mk (st := s_halls) l28 c28 k28
  have F29 := fun_mk (st := s_is_closed) l29 c29 k29
  have F30 := fun_mk (st := s_on_ring) l30 c30 k30
  have F31 := fun_mk (st := s_has_ring) l31 c31 k31
  have F32 := fun_mk (st := s_check_closed) l32 c32 k32
  have F33 := fun_mk (st := s_check_counts) l33 c33 k33
  have F34 := fun_mk (st := s_longest_times) l34 c34 k34
  have F35 := fun_mk (st := s_longest_path) l35 c35 k35
  have F36 := fun_mk (st := s_slack) l36 c36 k36
  have F37 := fun_mk (st := s_law_times) l37 c37 k37
  have F38 := fun_mk (st := s_law_rounds) l38 c38 k38
  have F39 := fun_mk (st := s_ties_waited) l39 c39 k39
  have F40 := fun_mk (st := s_law) l40 c40 k40
  have B : Bi mg := ⟨PySem.W.mg_none_of X G z1, PySem.W.mg_none_of X G z2, PySem.W.mg_none_of X G z3, PySem.W.mg_none_of X G z4, PySem.W.mg_none_of X G z5, PySem.W.mg_none_of X G z6, PySem.W.mg_none_of X G z7, PySem.W.mg_none_of X G z8, PySem.W.mg_none_of X G z9, PySem.W.mg_none_of X G z10, PySem.W.mg_none_of X G z11, PySem.W.mg_none_of X G z12⟩
  refine ⟨PySem.W.fnOf "law" "law" (defArgs s_law) (defBody s_law) (defScope s_law) .none kV40 dc40 pm40 an40 cd40 ct40, fun s v => .of_eq rfl, fun base _ _ => ?_⟩
  have h_MAX_COUNT := PySem.W.mg_of X G q0
  have r_MAX_COUNT : L2.RelV (.int 200) (.int 200 tk0) := ⟨_, rfl⟩
  have h_MAX_ROUND := PySem.W.mg_of X G q1
  have r_MAX_ROUND : L2.RelV (.int 400) (.int 400 tk1) := ⟨_, rfl⟩
  have c_law_take : Callee l.prog w K mg base 1 "_law_take" sp_law_take := ok_law_take F1 (PySem.W.mg_of X G a1) B 
  have c_law_digits : Callee l.prog w K mg base 1 "_law_digits" sp_law_digits := ok_law_digits F2 (PySem.W.mg_of X G a2) B 
  have c_law_box : CalleeB l.prog w K mg base 2 "_law_box" := ok_law_box F3 (PySem.W.mg_of X G a3) B c_law_digits
  have c_law_pick : Callee l.prog w K mg base 2 "_law_pick" sp_law_pick := ok_law_pick F4 (PySem.W.mg_of X G a4) B c_law_take
  have c_law_word : Callee l.prog w K mg base 2 "_law_word" sp_law_word := ok_law_word F5 (PySem.W.mg_of X G a5) B c_law_take
  have c_law_names : Callee l.prog w K mg base 3 "_law_names" sp_law_names := ok_law_names F6 (PySem.W.mg_of X G a6) B c_law_take c_law_pick c_law_word
  have c_law_machines : Callee l.prog w K mg base 4 "_law_machines" sp_law_machines := ok_law_machines F7 (PySem.W.mg_of X G a7) B c_law_names c_law_take c_law_pick
  have c_law_works : Callee l.prog w K mg base 5 "_law_works" sp_law_works := ok_law_works F8 (PySem.W.mg_of X G a8) B c_law_take c_law_machines c_law_names c_law_pick
  have c_law_lively : Callee l.prog w K mg base 2 "_law_lively" sp_law_lively := ok_law_lively F9 (PySem.W.mg_of X G a9) B c_law_take
  have c_law_closed : Callee l.prog w K mg base 6 "_law_closed" sp_law_closed := ok_law_closed F10 (PySem.W.mg_of X G a10) B c_law_works c_law_names c_law_pick c_law_lively
  have c_law_name_list : Callee l.prog w K mg base 1 "_law_name_list" sp_law_name_list := ok_law_name_list F11 (PySem.W.mg_of X G a11) B 
  have c_ties_of : Callee l.prog w K mg base 1 "ties_of" sp_ties_of := ok_ties_of F12 (PySem.W.mg_of X G a12) B 
  have c_names_of : Callee l.prog w K mg base 1 "names_of" sp_names_of := ok_names_of F13 (PySem.W.mg_of X G a13) B 
  have c_leaving_of : Callee l.prog w K mg base 1 "leaving_of" sp_leaving_of := ok_leaving_of F14 (PySem.W.mg_of X G a14) B 
  have c_order_or_ring : Callee l.prog w K mg base 2 "order_or_ring" sp_order_or_ring := ok_order_or_ring F15 (PySem.W.mg_of X G a15) B c_leaving_of
  have c_goes_on : Callee l.prog w K mg base 3 "goes_on" sp_goes_on := ok_goes_on F16 (PySem.W.mg_of X G a16) B c_ties_of c_names_of c_order_or_ring
  have c_check_endless : Callee l.prog w K mg base 4 "check_endless" sp_check_endless := ok_check_endless F17 (PySem.W.mg_of X G a17) B c_goes_on
  have c_times_of : Callee l.prog w K mg base 1 "times_of" sp_times_of := ok_times_of F18 (PySem.W.mg_of X G a18) B 
  have c_round_order : Callee l.prog w K mg base 2 "round_order" sp_round_order := ok_round_order F19 (PySem.W.mg_of X G a19) B c_ties_of c_names_of
  have c_inner_order : Callee l.prog w K mg base 2 "inner_order" sp_inner_order := ok_inner_order F20 (PySem.W.mg_of X G a20) B c_names_of c_times_of c_ties_of
  have c_rounds : Callee l.prog w K mg base 3 "rounds" sp_rounds := ok_rounds F21 (PySem.W.mg_of X G a21) B c_names_of c_round_order c_inner_order
  have c_waited_ties : Callee l.prog w K mg base 2 "waited_ties" sp_waited_ties := ok_waited_ties F22 (PySem.W.mg_of X G a22) B c_ties_of
  have c_cause_of : Callee l.prog w K mg base 5 "cause_of" sp_cause_of := ok_cause_of F23 (PySem.W.mg_of X G a23) B c_check_endless c_names_of c_times_of c_rounds c_waited_ties
  have c_law_ties : Callee l.prog w K mg base 1 "_law_ties" sp_law_ties := ok_law_ties F24 (PySem.W.mg_of X G a24) B 
  have c_law_known : Callee l.prog w K mg base 2 "_law_known" sp_law_known := ok_law_known F25 (PySem.W.mg_of X G a25) B c_law_ties
  have c_reached_from : Callee l.prog w K mg base 2 "reached_from" sp_reached_from := ok_reached_from F26 (PySem.W.mg_of X G a26) B c_ties_of c_leaving_of
  have c_is_behind : Callee l.prog w K mg base 1 "is_behind" sp_is_behind := ok_is_behind F27 (PySem.W.mg_of X G a27) B 
  have c_halls : Callee l.prog w K mg base 3 "halls" sp_halls := ok_halls F28 (PySem.W.mg_of X G a28) B c_names_of c_reached_from c_is_behind
  have c_is_closed : Callee l.prog w K mg base 4 "is_closed" sp_is_closed := ok_is_closed F29 (PySem.W.mg_of X G a29) B c_halls
  have c_on_ring : Callee l.prog w K mg base 2 "on_ring" sp_on_ring := ok_on_ring F30 (PySem.W.mg_of X G a30) B c_leaving_of
  have c_has_ring : Callee l.prog w K mg base 3 "has_ring" sp_has_ring := ok_has_ring F31 (PySem.W.mg_of X G a31) B c_ties_of c_names_of c_on_ring
  have c_check_closed : Callee l.prog w K mg base 5 "check_closed" sp_check_closed := ok_check_closed F32 (PySem.W.mg_of X G a32) B c_check_endless c_is_closed c_has_ring
  have c_check_counts : Callee l.prog w K mg base 2 "check_counts" sp_check_counts := ok_check_counts F33 (PySem.W.mg_of X G a33) B c_ties_of h_MAX_COUNT r_MAX_COUNT
  have c_longest_times : Callee l.prog w K mg base 2 "longest_times" sp_longest_times := ok_longest_times F34 (PySem.W.mg_of X G a34) B c_ties_of c_times_of
  have c_longest_path : Callee l.prog w K mg base 2 "longest_path" sp_longest_path := ok_longest_path F35 (PySem.W.mg_of X G a35) B c_ties_of
  have c_slack : Callee l.prog w K mg base 6 "slack" sp_slack := ok_slack F36 (PySem.W.mg_of X G a36) B c_check_closed c_check_counts c_longest_times c_names_of c_rounds c_longest_path h_MAX_ROUND r_MAX_ROUND
  have c_law_times : Callee l.prog w K mg base 1 "_law_times" sp_law_times := ok_law_times F37 (PySem.W.mg_of X G a37) B 
  have c_law_rounds : Callee l.prog w K mg base 2 "_law_rounds" sp_law_rounds := ok_law_rounds F38 (PySem.W.mg_of X G a38) B c_law_name_list c_law_times c_law_ties
  have c_ties_waited : Callee l.prog w K mg base 5 "ties_waited" sp_ties_waited := ok_ties_waited F39 (PySem.W.mg_of X G a39) B c_check_endless c_rounds c_times_of c_names_of c_waited_ties
  exact ok_law F40 B c_law_box c_law_closed c_law_name_list c_law_pick c_law_take c_cause_of c_law_known c_slack c_law_rounds c_law_times c_ties_waited
end Pw
open PySem PySem.W PyProof.Rows
set_option maxHeartbeats 0 in
theorem PySem.Challenge.cw_binworks_k74_whole_slack_causes_and_late_holds : PySem.Challenge.rw_binworks_k74_whole_slack_causes_and_late.Holds := by
  w_on; o_law; k_head; (case hw => w_witness2)
  k_fill
  refine L2.walk_of (l := PySem.Challenge.rw_binworks_k74_whole_slack_causes_and_late) (n := 63) (k := 7) (x := "script") (CX := fun _ => L2.CX0) (sp := fun w => Pw.spLaw _) rfl (by decide) rfl ⟨rfl, by decide, by decide⟩ (fun w h Y => PySem.W.kIn_of Y) ?F (fun _ _ a ns hl _ hS => ⟨a, ns, rfl, hS, hl, fun _ => rfl⟩) (fun _ _ _ _ _ h => h)
  case F =>
    intro w mg fa h KX G hmg
    refine' Pw.all_mk KX G hmg ?a1 ?l1 ?c1 ?k1 ?a2 ?l2 ?c2 ?k2 ?a3 ?l3 ?c3 ?k3 ?a4 ?l4 ?c4 ?k4 ?a5 ?l5 ?c5 ?k5 ?a6 ?l6 ?c6 ?k6 ?a7 ?l7 ?c7 ?k7 ?a8 ?l8 ?c8 ?k8 ?a9 ?l9 ?c9 ?k9 ?a10 ?l10 ?c10 ?k10 ?a11 ?l11 ?c11 ?k11 ?a12 ?l12 ?c12 ?k12 ?a13 ?l13 ?c13 ?k13 ?a14 ?l14 ?c14 ?k14 ?a15 ?l15 ?c15 ?k15 ?a16 ?l16 ?c16 ?k16 ?a17 ?l17 ?c17 ?k17 ?a18 ?l18 ?c18 ?k18 ?a19 ?l19 ?c19 ?k19 ?a20 ?l20 ?c20 ?k20 ?a21 ?l21 ?c21 ?k21 ?a22 ?l22 ?c22 ?k22 ?a23 ?l23 ?c23 ?k23 ?a24 ?l24 ?c24 ?k24 ?a25 ?l25 ?c25 ?k25 ?a26 ?l26 ?c26 ?k26 ?a27 ?l27 ?c27 ?k27 ?a28 ?l28 ?c28 ?k28 ?a29 ?l29 ?c29 ?k29 ?a30 ?l30 ?c30 ?k30 ?a31 ?l31 ?c31 ?k31 ?a32 ?l32 ?c32 ?k32 ?a33 ?l33 ?c33 ?k33 ?a34 ?l34 ?c34 ?k34 ?a35 ?l35 ?c35 ?k35 ?a36 ?l36 ?c36 ?k36 ?a37 ?l37 ?c37 ?k37 ?a38 ?l38 ?c38 ?k38 ?a39 ?l39 ?c39 ?k39 ?a40 ?l40 ?c40 ?k40 ?z1 ?z2 ?z3 ?z4 ?z5 ?z6 ?z7 ?z8 ?z9 ?z10 ?z11 ?z12 ?q0 ?q1
    (case a1 => k_is); (case l1 => k_is); (case c1 => k_is); (case k1 => k_is); (case a2 => k_is); (case l2 => k_is); (case c2 => k_is); (case k2 => k_is); (case a3 => k_is); (case l3 => k_is); (case c3 => k_is); (case k3 => k_is); (case a4 => k_is); (case l4 => k_is); (case c4 => k_is); (case k4 => k_is); (case a5 => k_is); (case l5 => k_is); (case c5 => k_is); (case k5 => k_is); (case a6 => k_is); (case l6 => k_is); (case c6 => k_is); (case k6 => k_is); (case a7 => k_is); (case l7 => k_is); (case c7 => k_is); (case k7 => k_is); (case a8 => k_is); (case l8 => k_is); (case c8 => k_is); (case k8 => k_is); (case a9 => k_is); (case l9 => k_is); (case c9 => k_is); (case k9 => k_is); (case a10 => k_is); (case l10 => k_is); (case c10 => k_is); (case k10 => k_is); (case a11 => k_is); (case l11 => k_is); (case c11 => k_is); (case k11 => k_is); (case a12 => k_is); (case l12 => k_is); (case c12 => k_is); (case k12 => k_is); (case a13 => k_is); (case l13 => k_is); (case c13 => k_is); (case k13 => k_is); (case a14 => k_is); (case l14 => k_is); (case c14 => k_is); (case k14 => k_is); (case a15 => k_is); (case l15 => k_is); (case c15 => k_is); (case k15 => k_is); (case a16 => k_is); (case l16 => k_is); (case c16 => k_is); (case k16 => k_is); (case a17 => k_is); (case l17 => k_is); (case c17 => k_is); (case k17 => k_is); (case a18 => k_is); (case l18 => k_is); (case c18 => k_is); (case k18 => k_is); (case a19 => k_is); (case l19 => k_is); (case c19 => k_is); (case k19 => k_is); (case a20 => k_is); (case l20 => k_is); (case c20 => k_is); (case k20 => k_is); (case a21 => k_is); (case l21 => k_is); (case c21 => k_is); (case k21 => k_is); (case a22 => k_is); (case l22 => k_is); (case c22 => k_is); (case k22 => k_is); (case a23 => k_is); (case l23 => k_is); (case c23 => k_is); (case k23 => k_is); (case a24 => k_is); (case l24 => k_is); (case c24 => k_is); (case k24 => k_is); (case a25 => k_is); (case l25 => k_is); (case c25 => k_is); (case k25 => k_is); (case a26 => k_is); (case l26 => k_is); (case c26 => k_is); (case k26 => k_is); (case a27 => k_is); (case l27 => k_is); (case c27 => k_is); (case k27 => k_is); (case a28 => k_is); (case l28 => k_is); (case c28 => k_is); (case k28 => k_is); (case a29 => k_is); (case l29 => k_is); (case c29 => k_is); (case k29 => k_is); (case a30 => k_is); (case l30 => k_is); (case c30 => k_is); (case k30 => k_is); (case a31 => k_is); (case l31 => k_is); (case c31 => k_is); (case k31 => k_is); (case a32 => k_is); (case l32 => k_is); (case c32 => k_is); (case k32 => k_is); (case a33 => k_is); (case l33 => k_is); (case c33 => k_is); (case k33 => k_is); (case a34 => k_is); (case l34 => k_is); (case c34 => k_is); (case k34 => k_is); (case a35 => k_is); (case l35 => k_is); (case c35 => k_is); (case k35 => k_is); (case a36 => k_is); (case l36 => k_is); (case c36 => k_is); (case k36 => k_is); (case a37 => k_is); (case l37 => k_is); (case c37 => k_is); (case k37 => k_is); (case a38 => k_is); (case l38 => k_is); (case c38 => k_is); (case k38 => k_is); (case a39 => k_is); (case l39 => k_is); (case c39 => k_is); (case k39 => k_is); (case a40 => k_is); (case l40 => k_is); (case c40 => k_is); (case k40 => k_is); (case z1 => k_is); (case z2 => k_is); (case z3 => k_is); (case z4 => k_is); (case z5 => k_is); (case z6 => k_is); (case z7 => k_is); (case z8 => k_is); (case z9 => k_is); (case z10 => k_is); (case z11 => k_is); (case z12 => k_is); (case q0 => k_is); (case q1 => k_is)
