import PyProof.Rows.All
import HandS.ForMost
import HandS.ForExc
import HandS.Lambda
import KE.SortData
import KE.DataMinMax
import PyProof.ReprRoads
import HandS.Conv
import HandS.DictComp
import HandS.TupMul
import HandS.TupAny
import HandS.IsInst
import HandS.Zip
import HandS.Style
import HandS.NoneIn
import KE.DataEq
import HandS.WordsDict
import KE.KDictSum
import PyProof.SumAny
import HandS.Defaults
import HandS.Head0
import HandS.Head1
import HandS.Head2
import HandS.HeadEnd
import HandS.HeadHook1
import HandS.HeadHook2
import HandS.EndTab
import KE.KNestM
import PySem.Challenge.RW_workhall_k71_whole_closed_and_shaped_cur
import HandS.ExcIs
import Lean
section sec_W1
set_option Elab.async false
set_option linter.all false
set_option maxRecDepth 100000
set_option maxHeartbeats 4000000
namespace Wk
open PySem L2
abbrev Frag := PySem.W.Frag
abbrev ASet := Addr → Prop
/-! ## data -/
inductive D where
  | non | bl (b : Bool) | int (i : Int) | str (s : Str) | hand | scr (ns : List Int)
  | tup (xs : List D)
  | lst (o : Bool) (xs : List D)
  | dik (o : Bool) (kvs : List (L2.Key × D))
  | dit (o : Bool) (kvs : List (List L2.Key × D))
mutual
/-- frozen: no list, no dict of it is anybody's own any more -/
def fr : D → D
  | .tup xs => .tup (frs xs)
  | .lst _ xs => .lst false (frs xs)
  | .dik _ kvs => .dik false (frk kvs)
  | .dit _ kvs => .dit false (frt kvs)
  | .non => .non | .bl b => .bl b | .int i => .int i | .str s => .str s | .hand => .hand | .scr ns => .scr ns
def frs : List D → List D
  | [] => []
  | d :: ds => fr d :: frs ds
def frk : List (L2.Key × D) → List (L2.Key × D)
  | [] => []
  | (k, d) :: ds => (k, fr d) :: frk ds
def frt : List (List L2.Key × D) → List (List L2.Key × D)
  | [] => []
  | (k, d) :: ds => (k, fr d) :: frt ds
end
theorem frs_map (ds : List D) : frs ds = ds.map fr := by
  induction ds with
  | nil => rfl
  | cons d ds ih => simp [frs, ih]
mutual
/-- closed: each list, each dict of it is its own -/
def cl : D → Bool
  | .tup xs => cls xs
  | .lst o xs => o && cls xs
  | .dik o kvs => o && clk kvs
  | .dit o kvs => o && clt kvs
  | .non => true | .bl _ => true | .int _ => true | .str _ => true | .hand => true | .scr _ => false
def cls : List D → Bool
  | [] => true
  | d :: ds => cl d && cls ds
def clk : List (L2.Key × D) → Bool
  | [] => true
  | (_, d) :: ds => cl d && clk ds
def clt : List (List L2.Key × D) → Bool
  | [] => true
  | (_, d) :: ds => cl d && clt ds
end
mutual
/-- how data lie: what is frozen in F, what is owned in H within T -/
def Rep (K : Frag) (F H : Hp) (hd : Option Addr) : D → V → ASet → Prop
  | .non, v, _ => v = .non
  | .bl b, v, _ => v = .bl b
  | .int i, v, _ => v = .int i
  | .str s, v, _ => v = .str s
  | .hand, v, _ => ∃ a, hd = some a ∧ v = .ref a
  | .scr ns, v, _ => ∃ a, v = .ref a ∧ SqL K F a (ns.map V.int)
  | .tup xs, v, T => ∃ a vs, v = .ref a ∧ F a = some (.tup vs) ∧ Reps K F H hd xs vs T
  | .lst false xs, v, T => ∃ a vs, v = .ref a ∧ F a = some (.lst vs) ∧ Reps K F H hd xs vs T
  | .lst true xs, v, T => ∃ a vs, v = .ref a ∧ T a ∧ H a = some (.lst vs) ∧ Reps K F H hd xs vs (fun b => T b ∧ b ≠ a)
  | .dik false kvs, v, T => ∃ a us, v = .ref a ∧ F a = some (.dK us) ∧ Repk K F H hd kvs us T
  | .dik true kvs, v, T => ∃ a us, v = .ref a ∧ T a ∧ H a = some (.dK us) ∧ Repk K F H hd kvs us (fun b => T b ∧ b ≠ a)
  | .dit false kvs, v, T => ∃ a us, v = .ref a ∧ F a = some (.dT us) ∧ Rept K F H hd kvs us T
  | .dit true kvs, v, T => ∃ a us, v = .ref a ∧ T a ∧ H a = some (.dT us) ∧ Rept K F H hd kvs us (fun b => T b ∧ b ≠ a)
def Reps (K : Frag) (F H : Hp) (hd : Option Addr) : List D → List V → ASet → Prop
  | [], vs, _ => vs = []
  | d :: ds, vs, T => ∃ v r T1 T2, vs = v :: r ∧ (∀ a, T1 a → T a) ∧ (∀ a, T2 a → T a) ∧ (∀ a, T1 a → ¬ T2 a) ∧ Rep K F H hd d v T1 ∧ Reps K F H hd ds r T2
def Repk (K : Frag) (F H : Hp) (hd : Option Addr) : List (L2.Key × D) → List (L2.Key × V) → ASet → Prop
  | [], vs, _ => vs = []
  | (k, d) :: ds, vs, T => ∃ v r T1 T2, vs = (k, v) :: r ∧ (∀ a, T1 a → T a) ∧ (∀ a, T2 a → T a) ∧ (∀ a, T1 a → ¬ T2 a) ∧ Rep K F H hd d v T1 ∧ Repk K F H hd ds r T2
def Rept (K : Frag) (F H : Hp) (hd : Option Addr) : List (List L2.Key × D) → List (List L2.Key × V) → ASet → Prop
  | [], vs, _ => vs = []
  | (k, d) :: ds, vs, T => ∃ v r T1 T2, vs = (k, v) :: r ∧ (∀ a, T1 a → T a) ∧ (∀ a, T2 a → T a) ∧ (∀ a, T1 a → ¬ T2 a) ∧ Rep K F H hd d v T1 ∧ Rept K F H hd ds r T2
end
section
variable {K : Frag} {F F' H H' : Hp} {hd : Option Addr}
mutual
theorem Rep.mono (hF : Same F F') : ∀ {d : D} {v : V} {T T' : ASet}, Rep K F H hd d v T → (∀ a o, T a → H a = some o → H' a = some o) → (∀ a, T a → T' a) → Rep K F' H' hd d v T'
  | .non, _, _, _, h, _, _ => h
  | .bl _, _, _, _, h, _, _ => h
  | .int _, _, _, _, h, _, _ => h
  | .str _, _, _, _, h, _, _ => h
  | .hand, _, _, _, h, _, _ => h
  | .scr ns, _, _, _, h, _, _ => by
    obtain ⟨a, e, q⟩ := h
    exact ⟨a, e, Same.seq hF q⟩
  | .tup xs, v, T, T', h, k, s => by
    obtain ⟨a, vs, e, q, r⟩ := h
    exact ⟨a, vs, e, hF _ _ q, Reps.mono hF r k s⟩
  | .lst false xs, v, T, T', h, k, s => by
    obtain ⟨a, vs, e, q, r⟩ := h
    exact ⟨a, vs, e, hF _ _ q, Reps.mono hF r k s⟩
  | .lst true xs, v, T, T', h, k, s => by
    obtain ⟨a, vs, e, t, q, r⟩ := h
    exact ⟨a, vs, e, s a t, k a _ t q, Reps.mono hF r (fun b o hb => k b o hb.1) fun b hb => ⟨s b hb.1, hb.2⟩⟩
  | .dik false xs, v, T, T', h, k, s => by
    obtain ⟨a, vs, e, q, r⟩ := h
    exact ⟨a, vs, e, hF _ _ q, Repk.mono hF r k s⟩
  | .dik true xs, v, T, T', h, k, s => by
    obtain ⟨a, vs, e, t, q, r⟩ := h
    exact ⟨a, vs, e, s a t, k a _ t q, Repk.mono hF r (fun b o hb => k b o hb.1) fun b hb => ⟨s b hb.1, hb.2⟩⟩
  | .dit false xs, v, T, T', h, k, s => by
    obtain ⟨a, vs, e, q, r⟩ := h
    exact ⟨a, vs, e, hF _ _ q, Rept.mono hF r k s⟩
  | .dit true xs, v, T, T', h, k, s => by
    obtain ⟨a, vs, e, t, q, r⟩ := h
    exact ⟨a, vs, e, s a t, k a _ t q, Rept.mono hF r (fun b o hb => k b o hb.1) fun b hb => ⟨s b hb.1, hb.2⟩⟩
theorem Reps.mono (hF : Same F F') : ∀ {d : List D} {v : List V} {T T' : ASet}, Reps K F H hd d v T → (∀ a o, T a → H a = some o → H' a = some o) → (∀ a, T a → T' a) → Reps K F' H' hd d v T'
  | [], _, _, _, h, _, _ => h
  | d :: ds, vs, T, T', h, k, s => by
    obtain ⟨v, r, T1, T2, e, s1, s2, n, p, q⟩ := h
    exact ⟨v, r, T1, T2, e, fun a t => s a (s1 a t), fun a t => s a (s2 a t), n, Rep.mono hF p (fun a o t => k a o (s1 a t)) fun _ t => t, Reps.mono hF q (fun a o t => k a o (s2 a t)) fun _ t => t⟩
theorem Repk.mono (hF : Same F F') : ∀ {d : List (L2.Key × D)} {v : List (L2.Key × V)} {T T' : ASet}, Repk K F H hd d v T → (∀ a o, T a → H a = some o → H' a = some o) → (∀ a, T a → T' a) → Repk K F' H' hd d v T'
  | [], _, _, _, h, _, _ => h
  | (key, d) :: ds, vs, T, T', h, k, s => by
    obtain ⟨v, r, T1, T2, e, s1, s2, n, p, q⟩ := h
    exact ⟨v, r, T1, T2, e, fun a t => s a (s1 a t), fun a t => s a (s2 a t), n, Rep.mono hF p (fun a o t => k a o (s1 a t)) fun _ t => t, Repk.mono hF q (fun a o t => k a o (s2 a t)) fun _ t => t⟩
theorem Rept.mono (hF : Same F F') : ∀ {d : List (List L2.Key × D)} {v : List (List L2.Key × V)} {T T' : ASet}, Rept K F H hd d v T → (∀ a o, T a → H a = some o → H' a = some o) → (∀ a, T a → T' a) → Rept K F' H' hd d v T'
  | [], _, _, _, h, _, _ => h
  | (key, d) :: ds, vs, T, T', h, k, s => by
    obtain ⟨v, r, T1, T2, e, s1, s2, n, p, q⟩ := h
    exact ⟨v, r, T1, T2, e, fun a t => s a (s1 a t), fun a t => s a (s2 a t), n, Rep.mono hF p (fun a o t => k a o (s1 a t)) fun _ t => t, Rept.mono hF q (fun a o t => k a o (s2 a t)) fun _ t => t⟩
end
mutual
/-- freezing: the owned cells come into F' -/
theorem Rep.fr (hF : Same F F') : ∀ {d : D} {v : V} {T T' : ASet}, Rep K F H hd d v T → (∀ a o, T a → H a = some o → F' a = some o) → Rep K F' H' hd (fr d) v T'
  | .non, _, _, _, h, _ => h
  | .bl _, _, _, _, h, _ => h
  | .int _, _, _, _, h, _ => h
  | .str _, _, _, _, h, _ => h
  | .hand, _, _, _, h, _ => h
  | .scr ns, _, _, _, h, _ => by
    obtain ⟨a, e, q⟩ := h
    exact ⟨a, e, Same.seq hF q⟩
  | .tup xs, v, T, T', h, k => by
    obtain ⟨a, vs, e, q, r⟩ := h
    exact ⟨a, vs, e, hF _ _ q, Reps.fr hF r k⟩
  | .lst false xs, v, T, T', h, k => by
    obtain ⟨a, vs, e, q, r⟩ := h
    exact ⟨a, vs, e, hF _ _ q, Reps.fr hF r k⟩
  | .lst true xs, v, T, T', h, k => by
    obtain ⟨a, vs, e, t, q, r⟩ := h
    exact ⟨a, vs, e, k a _ t q, Reps.fr hF r fun b o hb => k b o hb.1⟩
  | .dik false xs, v, T, T', h, k => by
    obtain ⟨a, vs, e, q, r⟩ := h
    exact ⟨a, vs, e, hF _ _ q, Repk.fr hF r k⟩
  | .dik true xs, v, T, T', h, k => by
    obtain ⟨a, vs, e, t, q, r⟩ := h
    exact ⟨a, vs, e, k a _ t q, Repk.fr hF r fun b o hb => k b o hb.1⟩
  | .dit false xs, v, T, T', h, k => by
    obtain ⟨a, vs, e, q, r⟩ := h
    exact ⟨a, vs, e, hF _ _ q, Rept.fr hF r k⟩
  | .dit true xs, v, T, T', h, k => by
    obtain ⟨a, vs, e, t, q, r⟩ := h
    exact ⟨a, vs, e, k a _ t q, Rept.fr hF r fun b o hb => k b o hb.1⟩
theorem Reps.fr (hF : Same F F') : ∀ {d : List D} {v : List V} {T T' : ASet}, Reps K F H hd d v T → (∀ a o, T a → H a = some o → F' a = some o) → Reps K F' H' hd (frs d) v T'
  | [], _, _, _, h, _ => h
  | d :: ds, vs, T, T', h, k => by
    obtain ⟨v, r, T1, T2, e, s1, s2, n, p, q⟩ := h
    exact ⟨v, r, fun _ => False, fun _ => False, e, fun a t => t.elim, fun a t => t.elim, fun _ t => t.elim, Rep.fr hF p fun a o t => k a o (s1 a t), Reps.fr hF q fun a o t => k a o (s2 a t)⟩
theorem Repk.fr (hF : Same F F') : ∀ {d : List (L2.Key × D)} {v : List (L2.Key × V)} {T T' : ASet}, Repk K F H hd d v T → (∀ a o, T a → H a = some o → F' a = some o) → Repk K F' H' hd (frk d) v T'
  | [], _, _, _, h, _ => h
  | (key, d) :: ds, vs, T, T', h, k => by
    obtain ⟨v, r, T1, T2, e, s1, s2, n, p, q⟩ := h
    exact ⟨v, r, fun _ => False, fun _ => False, e, fun a t => t.elim, fun a t => t.elim, fun _ t => t.elim, Rep.fr hF p fun a o t => k a o (s1 a t), Repk.fr hF q fun a o t => k a o (s2 a t)⟩
theorem Rept.fr (hF : Same F F') : ∀ {d : List (List L2.Key × D)} {v : List (List L2.Key × V)} {T T' : ASet}, Rept K F H hd d v T → (∀ a o, T a → H a = some o → F' a = some o) → Rept K F' H' hd (frt d) v T'
  | [], _, _, _, h, _ => h
  | (key, d) :: ds, vs, T, T', h, k => by
    obtain ⟨v, r, T1, T2, e, s1, s2, n, p, q⟩ := h
    exact ⟨v, r, fun _ => False, fun _ => False, e, fun a t => t.elim, fun a t => t.elim, fun _ t => t.elim, Rep.fr hF p fun a o t => k a o (s1 a t), Rept.fr hF q fun a o t => k a o (s2 a t)⟩
end
mutual
/-- closed data lean on the tuples of F alone -/
theorem Rep.cl (hF : ∀ a vs, F a = some (.tup vs) → F' a = some (.tup vs)) : ∀ {d : D} {v : V} {T : ASet}, cl d = true → Rep K F H hd d v T → Rep K F' H hd d v T
  | .non, _, _, _, h => h
  | .bl _, _, _, _, h => h
  | .int _, _, _, _, h => h
  | .str _, _, _, _, h => h
  | .hand, _, _, _, h => h
  | .scr ns, _, _, c, h => by simp [Wk.cl] at c
  | .tup xs, v, T, c, h => by
    obtain ⟨a, vs, e, q, r⟩ := h
    exact ⟨a, vs, e, hF a vs q, Reps.cl hF (by simpa [Wk.cl] using c) r⟩
  | .lst false xs, v, T, c, h => by simp [Wk.cl] at c
  | .lst true xs, v, T, c, h => by
    obtain ⟨a, vs, e, t, q, r⟩ := h
    exact ⟨a, vs, e, t, q, Reps.cl hF (by simpa [Wk.cl] using c) r⟩
  | .dik false xs, v, T, c, h => by simp [Wk.cl] at c
  | .dik true xs, v, T, c, h => by
    obtain ⟨a, vs, e, t, q, r⟩ := h
    exact ⟨a, vs, e, t, q, Repk.cl hF (by simpa [Wk.cl] using c) r⟩
  | .dit false xs, v, T, c, h => by simp [Wk.cl] at c
  | .dit true xs, v, T, c, h => by
    obtain ⟨a, vs, e, t, q, r⟩ := h
    exact ⟨a, vs, e, t, q, Rept.cl hF (by simpa [Wk.cl] using c) r⟩
theorem Reps.cl (hF : ∀ a vs, F a = some (.tup vs) → F' a = some (.tup vs)) : ∀ {d : List D} {v : List V} {T : ASet}, cls d = true → Reps K F H hd d v T → Reps K F' H hd d v T
  | [], _, _, _, h => h
  | d :: ds, vs, T, c, h => by
    obtain ⟨v, r, T1, T2, e, s1, s2, n, p, q⟩ := h
    have c' : Wk.cl d = true ∧ cls ds = true := by simpa [Wk.cls] using c
    exact ⟨v, r, T1, T2, e, s1, s2, n, Rep.cl hF c'.1 p, Reps.cl hF c'.2 q⟩
theorem Repk.cl (hF : ∀ a vs, F a = some (.tup vs) → F' a = some (.tup vs)) : ∀ {d : List (L2.Key × D)} {v : List (L2.Key × V)} {T : ASet}, clk d = true → Repk K F H hd d v T → Repk K F' H hd d v T
  | [], _, _, _, h => h
  | (k, d) :: ds, vs, T, c, h => by
    obtain ⟨v, r, T1, T2, e, s1, s2, n, p, q⟩ := h
    have c' : Wk.cl d = true ∧ clk ds = true := by simpa [Wk.clk] using c
    exact ⟨v, r, T1, T2, e, s1, s2, n, Rep.cl hF c'.1 p, Repk.cl hF c'.2 q⟩
theorem Rept.cl (hF : ∀ a vs, F a = some (.tup vs) → F' a = some (.tup vs)) : ∀ {d : List (List L2.Key × D)} {v : List (List L2.Key × V)} {T : ASet}, clt d = true → Rept K F H hd d v T → Rept K F' H hd d v T
  | [], _, _, _, h => h
  | (k, d) :: ds, vs, T, c, h => by
    obtain ⟨v, r, T1, T2, e, s1, s2, n, p, q⟩ := h
    have c' : Wk.cl d = true ∧ clt ds = true := by simpa [Wk.clt] using c
    exact ⟨v, r, T1, T2, e, s1, s2, n, Rep.cl hF c'.1 p, Rept.cl hF c'.2 q⟩
end
theorem Reps.length : ∀ {ds : List D} {vs : List V} {T : ASet}, Reps K F H hd ds vs T → vs.length = ds.length
  | [], vs, T, h => by cases h; rfl
  | d :: ds, vs, T, h => by
    obtain ⟨v, r, T1, T2, rfl, _, _, _, _, q⟩ := h
    simp [Reps.length q]
theorem Reps.get : ∀ {ds : List D} {vs : List V} {T : ASet} {i : Nat} {d : D}, Reps K F H hd ds vs T → ds[i]? = some d → ∃ v, vs[i]? = some v ∧ Rep K F H hd d v T
  | [], vs, T, i, d, h, e => by simp at e
  | d :: ds, vs, T, 0, d', h, e => by
    obtain ⟨v, r, T1, T2, rfl, s1, _, _, p, q⟩ := h
    simp at e; subst e
    exact ⟨v, rfl, Rep.mono (Same.refl F) p (fun _ _ _ z => z) s1⟩
  | d :: ds, vs, T, i + 1, d', h, e => by
    obtain ⟨v, r, T1, T2, rfl, _, s2, _, p, q⟩ := h
    obtain ⟨v', e', p'⟩ := Reps.get (i := i) q (by simpa using e)
    exact ⟨v', by simpa using e', Rep.mono (Same.refl F) p' (fun _ _ _ z => z) s2⟩
end
end Wk
end sec_W1

section sec_W2
set_option Elab.async false
set_option linter.all false
set_option maxRecDepth 100000
set_option maxHeartbeats 4000000
namespace Wk
open PySem L2
/-! ## operations on data -/
mutual
/-- no dict, no script, no hand within -/
def pl : D → Bool
  | .tup xs => pls xs
  | .lst _ xs => pls xs
  | .dik _ _ => false | .dit _ _ => false | .hand => false | .scr _ => false
  | .non => true | .bl _ => true | .int _ => true | .str _ => true
def pls : List D → Bool
  | [] => true
  | d :: ds => pl d && pls ds
end
mutual
def dep : D → Nat
  | .tup xs => deps xs + 1
  | .lst _ xs => deps xs + 1
  | .dik _ _ => 0 | .dit _ _ => 0 | .hand => 0 | .scr _ => 0
  | .non => 0 | .bl _ => 0 | .int _ => 0 | .str _ => 0
def deps : List D → Nat
  | [] => 0
  | d :: ds => max (dep d) (deps ds)
end
mutual
/-- == of data -/
def eqD : D → D → Bool
  | .non, .non => true
  | .bl a, .bl b => a == b
  | .bl a, .int j => (if a then 1 else 0) == j
  | .int i, .bl b => i == (if b then 1 else 0)
  | .int i, .int j => i == j
  | .str x, .str y => x == y
  | .tup xs, .tup ys => eqDs xs ys
  | .lst _ xs, .lst _ ys => eqDs xs ys
  | _, _ => false
def eqDs : List D → List D → Bool
  | [], [] => true
  | x :: xs, y :: ys => eqD x y && eqDs xs ys
  | _, _ => false
end
mutual
def pyD : D → PyData
  | .non => .none | .bl b => .bool b | .int i => .int i | .str s => .str s
  | .tup xs => .tuple (pyDs xs)
  | .lst _ xs => .list (pyDs xs)
  | .dik _ _ => .none | .dit _ _ => .none | .hand => .none | .scr _ => .none
def pyDs : List D → List PyData
  | [] => []
  | d :: ds => pyD d :: pyDs ds
end
/-- the data of keys -/
def kP : L2.Key → PyData
  | .inl i => .int i
  | .inr x => .str x
mutual
/-- the same with dicts -/
def pyR : D → PyData
  | .non => .none | .bl b => .bool b | .int i => .int i | .str s => .str s
  | .tup xs => .tuple (pyRs xs)
  | .lst _ xs => .list (pyRs xs)
  | .dik _ kvs => .dict (pyRk kvs)
  | .dit _ _ => .none | .hand => .none | .scr _ => .none
def pyRs : List D → List PyData
  | [] => []
  | d :: ds => pyR d :: pyRs ds
def pyRk : List (L2.Key × D) → List (PyData × PyData)
  | [] => []
  | (k, d) :: ds => (kP k, pyR d) :: pyRk ds
end
mutual
/-- neither list nor hand nor script within -/
def nlst : D → Bool
  | .tup xs => nlsts xs
  | .lst _ _ => false
  | .dik _ kvs => nlstk kvs
  | .dit _ _ => false | .hand => false | .scr _ => false
  | .non => true | .bl _ => true | .int _ => true | .str _ => true
def nlsts : List D → Bool
  | [] => true
  | d :: ds => nlst d && nlsts ds
def nlstk : List (L2.Key × D) → Bool
  | [] => true
  | (_, d) :: ds => nlst d && nlstk ds
end
mutual
/-- numbers, truth values, texts, None, tuples of these -/
def gnd : D → Bool
  | .tup xs => gnds xs
  | .lst _ _ => false | .dik _ _ => false | .dit _ _ => false | .hand => false | .scr _ => false
  | .non => true | .bl _ => true | .int _ => true | .str _ => true
def gnds : List D → Bool
  | [] => true
  | d :: ds => gnd d && gnds ds
end
def ltD (x y : D) : Bool := PySem.W.dataLt (pyD x) (pyD y)
def minDD (x : D) (xs : List D) : D := xs.foldl (fun a y => if ltD y a = true then y else a) x
def maxDD (x : D) (xs : List D) : D := xs.foldl (fun a y => if ltD a y = true then y else a) x
/-- the least, the greatest may be asked -/
structure MmOk (xs : List D) : Prop where
  gn : gnds xs = true
  al : PySem.W.AlikeAll (pyDs xs)
  dp : deps xs ≤ 60
/-- sorted may be asked -/
structure SrOk (xs : List D) : Prop where
  gn : gnds xs = true
  al : PySem.W.AllAlike (pyDs xs)
  so : PySem.W.Sortable (pyDs xs)
  dp : deps xs ≤ 60
def srtD (xs : List D) : List D := xs.mergeSort fun a b => !ltD b a
def kD : L2.Key → D
  | .inl i => .int i
  | .inr x => .str x
/-- repr may be asked -/
structure RpOk (d : D) : Prop where
  pl : (Wk.pl d || nlst d) = true
  sh : (pyR d).showable = true
  ln : (pyR d).shown.length ≤ sizeLine
  dp : (pyR d).depth ≤ 60
/-- == may be asked -/
def eqOk (x y : D) : Prop := pl x = true ∧ pl y = true ∧ (dep x ≤ 60 ∨ dep y ≤ 60)
def isNon : D → Bool
  | .non => true
  | _ => false
inductive Ty where
  | int | bool | str | tuple | list | dict
  deriving DecidableEq
def tyName : Ty → String
  | .int => "int" | .bool => "bool" | .str => "str" | .tuple => "tuple" | .list => "list" | .dict => "dict"
/-- isinstance -/
def isiD : D → Ty → Bool
  | .non, _ => false
  | .bl _, t => t == .bool || t == .int
  | .int _, t => t == .int
  | .str _, t => t == .str
  | .tup _, t => t == .tuple
  | .lst _ _, t => t == .list
  | .dik _ _, t => t == .dict
  | .dit _ _, t => t == .dict
  | .hand, t => t == .list
  | .scr _, t => t == .list
def truthD : D → Option Bool
  | .bl b => some b
  | .int i => some (i != 0)
  | .non => some false
  | .tup xs => some (!xs.isEmpty)
  | .lst _ xs => some (!xs.isEmpty)
  | .dik _ kvs => some (!kvs.isEmpty)
  | _ => none
def binW : Operator → D → D → (D → Prop) → Prop
  | .Add, .int i, .int j, Q => Q (.int (i + j))
  | .Sub, .int i, .int j, Q => Q (.int (i - j))
  | .Mult, .int i, .int j, Q => CMul i j ∧ Q (.int (i * j))
  | .FloorDiv, .int i, .int j, Q => CDiv i j ∧ Q (.int (i / j))
  | .Mod, .int i, .int j, Q => 0 < j ∧ Q (.int (i % j))
  | .Pow, .int i, .int j, Q => CPow i j ∧ Q (.int (i ^ j.toNat))
  | .LShift, .int i, .int j, Q => CPow i j ∧ Q (.int (i * 2 ^ j.toNat))
  | .RShift, .int i, .int j, Q => 0 ≤ j ∧ Q (.int (i / 2 ^ j.toNat))
  | .Add, .tup xs, .tup ys, Q => xs.length + ys.length ≤ sizeLine ∧ Q (.tup (xs ++ ys))
  | .Add, .lst _ xs, .lst _ ys, Q => xs.length + ys.length ≤ sizeLine ∧ Q (.lst true (xs ++ ys))
  | .Mult, .lst _ xs, .int k, Q => (k ≤ 1000 ∧ -1000 ≤ k ∧ xs.length ≤ 1000) ∧ Q (.lst true (List.replicate k.toNat (frs xs)).flatten)
  | .Mult, .tup xs, .int k, Q => (k ≤ 1000 ∧ -1000 ≤ k ∧ xs.length ≤ 1000) ∧ Q (.tup (List.replicate k.toNat (frs xs)).flatten)
  | _, _, _, _ => False
/-- a key -/
def keyD : D → Option L2.Key
  | .int i => some (.inl i)
  | .str x => some (.inr x)
  | _ => none
/-- what a dict has at a key -/
def atK (kvs : List (L2.Key × D)) (k : L2.Key) : Option D := (kvs.find? fun p => decide (p.1 = k)).map (·.2)
def cmpW : CmpOp → D → D → (D → Prop) → Prop
  | .Lt, .int i, .int j, Q => Q (.bl (decide (i < j)))
  | .LtE, .int i, .int j, Q => Q (.bl (decide (i ≤ j)))
  | .Gt, .int i, .int j, Q => Q (.bl (decide (j < i)))
  | .GtE, .int i, .int j, Q => Q (.bl (decide (j ≤ i)))
  | .Eq, x, y, Q => eqOk x y ∧ Q (.bl (eqD x y))
  | .NotEq, x, y, Q => eqOk x y ∧ Q (.bl (!eqD x y))
  | .Is, x, .non, Q => Q (.bl (isNon x))
  | .IsNot, x, .non, Q => Q (.bl (!isNon x))
  | .Is, .bl a, .bl b, Q => Q (.bl (decide (a = b)))
  | .IsNot, .bl a, .bl b, Q => Q (.bl (!decide (a = b)))
  | .In, x, .tup ys, Q => (pl x = true ∧ pls ys = true ∧ dep x ≤ 60) ∧ Q (.bl (ys.any fun y => eqD y x))
  | .NotIn, x, .tup ys, Q => (pl x = true ∧ pls ys = true ∧ dep x ≤ 60) ∧ Q (.bl (!ys.any fun y => eqD y x))
  | .In, x, .lst _ ys, Q => (pl x = true ∧ pls ys = true ∧ dep x ≤ 60) ∧ Q (.bl (ys.any fun y => eqD y x))
  | .NotIn, x, .lst _ ys, Q => (pl x = true ∧ pls ys = true ∧ dep x ≤ 60) ∧ Q (.bl (!ys.any fun y => eqD y x))
  | .In, x, .dik _ kvs, Q => ∃ k, keyD x = some k ∧ Q (.bl (atK kvs k).isSome)
  | .NotIn, x, .dik _ kvs, Q => ∃ k, keyD x = some k ∧ Q (.bl (!(atK kvs k).isSome))
  | _, _, _, _ => False
def idxW : D → D → (D → Prop) → Prop
  | .tup xs, .int i, Q => ∃ d, atI xs i = some d ∧ Q d
  | .lst _ xs, .int i, Q => ∃ d, atI xs i = some d ∧ Q d
  | .dik _ kvs, y, Q => ∃ k d, keyD y = some k ∧ atK kvs k = some d ∧ Q d
  | _, _, _ => False
/-- the items of xs[lo:hi] -/
def cutD {α : Type} (xs : List α) (lo hi : Option Int) : List α := (xs.drop (HT.sIx xs.length 0 lo)).take (HT.sIx xs.length xs.length hi - HT.sIx xs.length 0 lo)
def slW : D → Option Int → Option Int → (D → Prop) → Prop
  | .tup xs, lo, hi, Q => Q (.tup (cutD xs lo hi))
  | .lst _ xs, lo, hi, Q => Q (.lst true (cutD xs lo hi))
  | .scr ns, lo, hi, Q => Q (.lst true ((cutD ns lo hi).map .int))
  | _, _, _, _ => False
def revW : D → (D → Prop) → Prop
  | .tup xs, Q => Q (.tup xs.reverse)
  | .lst _ xs, Q => Q (.lst true xs.reverse)
  | _, _ => False
inductive B where
  | len | abs | int | tuple | list | min | max | sum | all | any | sorted | repr | str
  deriving DecidableEq
def bName : B → String
  | .len => "len" | .abs => "abs" | .int => "int" | .tuple => "tuple" | .list => "list" | .min => "min" | .max => "max" | .sum => "sum" | .all => "all" | .any => "any" | .sorted => "sorted" | .repr => "repr" | .str => "str"
/-- the ints of a list, the truth values of one -/
def ints? : List D → Option (List Int)
  | [] => some []
  | .int i :: ds => (ints? ds).map (i :: ·)
  | _ :: _ => none
def bls? : List D → Option (List Bool)
  | [] => some []
  | .bl i :: ds => (bls? ds).map (i :: ·)
  | _ :: _ => none
def lstOf : D → Option (List D)
  | .lst _ xs => some xs
  | _ => none
def bltW : B → List D → (D → Prop) → Prop
  | .len, [.tup xs], Q => Q (.int xs.length)
  | .len, [.lst _ xs], Q => Q (.int xs.length)
  | .len, [.str s], Q => s.length ≤ sizeLine ∧ Q (.int s.length)
  | .len, [.dik _ kvs], Q => Q (.int kvs.length)
  | .abs, [.int i], Q => Q (.int (if i < 0 then -i else i))
  | .int, [.int i], Q => Q (.int i)
  | .int, [.bl b], Q => Q (.int (if b then 1 else 0))
  | .tuple, [.tup xs], Q => Q (.tup xs)
  | .tuple, [.lst _ xs], Q => Q (.tup xs)
  | .list, [.tup xs], Q => Q (.lst true xs)
  | .list, [.lst _ xs], Q => Q (.lst true xs)
  | .min, [.int i, .int j], Q => Q (.int (if j < i then j else i))
  | .max, [.int i, .int j], Q => Q (.int (if j > i then j else i))
  | .min, [.lst _ (x :: xs)], Q => MmOk (x :: xs) ∧ Q (minDD x xs)
  | .max, [.lst _ (x :: xs)], Q => MmOk (x :: xs) ∧ Q (maxDD x xs)
  | .min, [.tup (x :: xs)], Q => MmOk (x :: xs) ∧ Q (minDD x xs)
  | .max, [.tup (x :: xs)], Q => MmOk (x :: xs) ∧ Q (maxDD x xs)
  | .sum, [.lst _ xs], Q => ∃ ns, ints? xs = some ns ∧ Q (.int ns.sum)
  | .sum, [.tup xs], Q => ∃ ns, ints? xs = some ns ∧ Q (.int ns.sum)
  | .sorted, [.lst _ xs], Q => SrOk xs ∧ Q (.lst true (srtD xs))
  | .sorted, [.tup xs], Q => SrOk xs ∧ Q (.lst true (srtD xs))
  | .sorted, [.dik _ kvs], Q => SrOk (kvs.map fun p => kD p.1) ∧ Q (.lst true (srtD (kvs.map fun p => kD p.1)))
  | .repr, [d], Q => RpOk d ∧ Q (.str (pyR d).shown)
  | .str, [.int i], Q => i.natAbs.log2 < 1920 ∧ Q (.str (toString i))
  | .all, [.lst _ xs], Q => ∃ bs, bls? xs = some bs ∧ Q (.bl (bs.all id))
  | .any, [.lst _ xs], Q => ∃ bs, bls? xs = some bs ∧ Q (.bl (bs.any id))
  | _, _, _ => False
/-! ## syntax -/
inductive Tg where
  | name (i : Nat)
  | tup (ts : List Tg)
inductive It where
  | seq | rng | enm | zip | rng3
  deriving DecidableEq
inductive E where
  | var (i : Nat) | int (n : Int) | bl (b : Bool) | non | str (s : Str) | glo (x : Str)
  | bin (op : Operator) (a b : E) | neg (a : E)
  | cmp (op : CmpOp) (a b : E) | chain (op op' : CmpOp) (a b c : E) | chain3 (op op' op'' : CmpOp) (a b c d : E)
  | and (es : List E) | or (es : List E) | not (a : E) | ite (c a b : E)
  | tup (es : List E) | lst (es : List E) | dnew (t : Bool)
  | idx (a i : E) | sl (a : E) (lo hi : Option E) | rev (a : E)
  | call (f : Nat) (es : List E) | blt (b : B) (es : List E) | isi (a : E) (t : Ty)
  | said (f : Nat) (e : E)
  | lrng (tp : Bool) (src : List E) | mget (a k x : E)
  | dc (own : List (Str × Nat)) (tg : Tg) (k : It) (src : List E) (c : Option E) (key val : E)
  | lc (own : List (Str × Nat)) (tg : Tg) (k : It) (src : List E) (c : Option E) (elt : E)
abbrev Env' := List (Option D)
structure Err where
  cls : Str
  arg : Option D
abbrev Con := List D → (D → Prop) → (Err → Prop) → Prop
structure Gam where
  call : Nat → Con
  nm : Nat → Str
  ar : Nat → Nat
  con : Str → Option Int
  pin : Bool := false
  lev : Nat := 0
  snm : Nat → Str := fun _ => ""
  sn : Nat := 0
  said : Nat → Except Err D → (D → Prop) → Prop := fun _ _ _ => False
  gd : Nat := 0
/-- how many defs may be called, whether lambdas may be made, whether things may be shown -/
abbrev NB := Nat × Bool × Bool
/-- a contract, whatever else is wanted -/
def mc (C : Con) : Con := fun ds Q Z => ∃ Q' Z', C ds Q' Z' ∧ (∀ d, Q' d → Q d) ∧ ∀ e, Z' e → Z e
/-- what a def makes of a lambda -/
def ms (C : Except Err D → (D → Prop) → Prop) (o : Except Err D) (Q : D → Prop) : Prop := ∃ Q', C o Q' ∧ ∀ d, Q' d → Q d
theorem ms_mono {C : Except Err D → (D → Prop) → Prop} {o : Except Err D} {Q Q' : D → Prop} (h : ∀ d, Q d → Q' d) (a : ms C o Q) : ms C o Q' := by
  obtain ⟨R, c, i⟩ := a
  exact ⟨R, c, fun d q => h d (i d q)⟩
theorem mc_of {C : Con} {ds : List D} {Q : D → Prop} {Z : Err → Prop} (h : C ds Q Z) : mc C ds Q Z := ⟨Q, Z, h, fun _ h => h, fun _ h => h⟩
/-! ## what is walked -/
def enmFrom : Nat → List D → List D
  | _, [] => []
  | n, d :: ds => .tup [.int n, d] :: enmFrom (n + 1) ds
def zipD : List D → List D → List D
  | x :: xs, y :: ys => .tup [x, y] :: zipD xs ys
  | _, _ => []
def itemsOf : D → Option (List D)
  | .tup xs => some (frs xs)
  | .lst _ xs => some (frs xs)
  | _ => none
def srcW : It → List D → (List D → Prop) → Prop
  | .seq, [d], Q => ∃ xs, itemsOf d = some xs ∧ Q xs
  | .rng, [.int n], Q => -(2 ^ 62) ≤ n ∧ n < 2 ^ 62 ∧ Q ((List.range n.toNat).map fun i => .int (i : Nat))
  | .rng, [.int a, .int b], Q => (-(2 ^ 62) ≤ a ∧ a < 2 ^ 62 ∧ -(2 ^ 62) ≤ b ∧ b < 2 ^ 62) ∧ Q ((List.range (b - a).toNat).map fun i => .int (a + (i : Nat)))
  | .enm, [.lst _ xs], Q => Q (enmFrom 0 (frs xs))
  | .rng3, [.int a, .int b, .int c], Q => ∃ n : Nat, RgC a b c n ∧ Q ((List.range n).map fun i => .int (a + (i : Nat) * c))
  | .zip, [.tup xs, .tup ys], Q => Q (zipD (frs xs) (frs ys))
  | .zip, [.lst _ xs, .lst _ ys], Q => Q (zipD (frs xs) (frs ys))
  | _, _, _ => False
mutual
def bindT : Tg → D → Env' → Option Env'
  | .name i, d, env => some (env.set i (some d))
  | .tup ts, .tup ds, env => bindTs ts ds env
  | .tup ts, .lst _ ds, env => bindTs ts ds env
  | .tup _, _, _ => none
def bindTs : List Tg → List D → Env' → Option Env'
  | [], [], env => some env
  | t :: ts, d :: ds, env => (bindT t d env).bind (bindTs ts ds)
  | _, _, _ => none
end
mutual
def tgIn : Tg → List Nat → Bool
  | .name i, vs => vs.contains i
  | .tup ts, vs => tgsIn ts vs
def tgsIn : List Tg → List Nat → Bool
  | [], _ => true
  | t :: ts, vs => tgIn t vs && tgsIn ts vs
end
/-- the names of a block forgotten -/
def wipeE (env : Env') : List Nat → Env'
  | [] => env
  | v :: vs => (wipeE env vs).set v none
/-- a comprehension's items, one by one: none is left out -/
def compW (f : D → (Option D → Prop) → Prop) : List D → (List D → Prop) → Prop
  | [], Q => Q []
  | d :: ds, Q => f d fun o => compW f ds fun r => Q (match o with
    | none => r
    | some y => y :: r)
/-- the ints of a range made whole -/
def rgW : List D → (List D → Prop) → Prop
  | [.int b], Q => RgOk 0 b ∧ Q ((rgI 0 b).map .int)
  | [.int a, .int b], Q => RgOk a b ∧ Q ((rgI a b).map .int)
  | _, _ => False
where rgI (a b : Int) : List Int := (List.range (b - a).toNat).map fun i => a + (i : Nat)
/-- a key set -/
def putD (kvs : List (L2.Key × D)) (k : L2.Key) (d : D) : List (L2.Key × D) := if kvs.any (fun p => decide (p.1 = k)) = true then kvs.map fun p => if p.1 = k then (p.1, d) else p else kvs ++ [(k, d)]
/-- a dict comprehension's items -/
def dcW (f : D → (Option (L2.Key × D) → Prop) → Prop) : List D → List (L2.Key × D) → (List (L2.Key × D) → Prop) → Prop
  | [], acc, Q => Q acc
  | d :: ds, acc, Q => f d fun o => dcW f ds (match o with
    | none => acc
    | some p => putD acc p.1 p.2) Q
def isDk : D → Bool
  | .dik _ _ => true
  | _ => false
def getW : D → D → D → (D → Prop) → Prop
  | .dik _ kvs, y, z, Q => ∃ k, keyD y = some k ∧ Q ((atK kvs k).getD z)
  | _, _, _, _ => False
mutual
def ev (G : Gam) : E → Env' → (D → Prop) → (Err → Prop) → Prop
  | .var i, env, Q, _ => ∃ d, env[i]? = some (some d) ∧ Q (fr d)
  | .int n, _, Q, _ => Q (.int n)
  | .bl b, _, Q, _ => Q (.bl b)
  | .non, _, Q, _ => Q .non
  | .str s, _, Q, _ => Q (.str s)
  | .glo x, _, Q, _ => ∃ i, G.con x = some i ∧ Q (.int i)
  | .bin op a b, env, Q, Z => ev G a env (fun x => ev G b env (fun y => binW op x y Q) Z) Z
  | .neg a, env, Q, Z => ev G a env (fun x => ∃ i, x = .int i ∧ Q (.int (-i))) Z
  | .cmp op a b, env, Q, Z => ev G a env (fun x => ev G b env (fun y => cmpW op x y Q) Z) Z
  | .chain op op' a b c, env, Q, Z => ev G a env (fun x => ev G b env (fun y => cmpW op x y fun r => ∃ k, r = .bl k ∧
      if k = true then ev G c env (fun z => cmpW op' (fr y) z Q) Z else Q (.bl false)) Z) Z
  | .chain3 op op' op'' a b c d, env, Q, Z => ev G a env (fun x => ev G b env (fun y => cmpW op x y fun r => ∃ k, r = .bl k ∧
      if k = true then ev G c env (fun z => cmpW op' (fr y) z fun r => ∃ k, r = .bl k ∧ if k = true then ev G d env (fun u => cmpW op'' (fr z) u Q) Z else Q (.bl false)) Z else Q (.bl false)) Z) Z
  | .and es, env, Q, Z => evAnd G es env Q Z
  | .or es, env, Q, Z => evOr G es env Q Z
  | .not a, env, Q, Z => ev G a env (fun x => ∃ b, x = .bl b ∧ Q (.bl (!b))) Z
  | .ite c a b, env, Q, Z => ev G c env (fun x => ∃ k, truthD x = some k ∧ if k = true then ev G a env Q Z else ev G b env Q Z) Z
  | .tup es, env, Q, Z => evs G es env (fun ds => Q (.tup ds)) Z
  | .lst es, env, Q, Z => evs G es env (fun ds => Q (.lst true ds)) Z
  | .dnew t, _, Q, _ => if t = true then Q (.dit true []) else Q (.dik true [])
  | .idx a i, env, Q, Z => ev G a env (fun x => ev G i env (fun y => idxW x y Q) Z) Z
  | .sl a lo hi, env, Q, Z => ev G a env (fun x => evO G lo env (fun l => evO G hi env (fun h => slW x l h Q) Z) Z) Z
  | .rev a, env, Q, Z => ev G a env (fun x => revW x Q) Z
  | .call f es, env, Q, Z => evs G es env (fun ds => mc (G.call f) (frs ds) Q Z) Z
  | .blt b es, env, Q, Z => evs G es env (fun ds => bltW b ds Q) Z
  | .isi a t, env, Q, Z => ev G a env (fun x => Q (.bl (isiD x t))) Z
  | .said f e, env, Q, _ => ev G e env (fun d => ms (G.said f) (.ok (fr d)) Q) (fun z => ms (G.said f) (.error z) Q)
  | .lrng tp src, env, Q, Z => evs G src env (fun ds => rgW ds fun xs => Q (if tp = true then .tup xs else .lst true xs)) Z
  | .mget a k x, env, Q, Z => ev G a env (fun d => isDk d = true ∧ ev G k env (fun y => ev G x env (fun z => getW d y z Q) Z) Z) Z
  | .dc own tg k src c key val, env, Q, Z => evs G src env (fun ds => srcW k ds fun xs => xs.length ≤ 1000000 ∧
      dcW (fun x o => ∃ env', bindT tg x (wipeE env (own.map (·.2))) = some env' ∧ evC G c env' (fun b => if b = true then ev G key env' (fun y => ∃ q, keyD y = some q ∧ ev G val env' (fun z => o (some (q, z))) (fun _ => False)) (fun _ => False) else o none)) xs [] fun r => Q (.dik true r)) Z
  | .lc own tg k src c elt, env, Q, Z => evs G src env (fun ds => srcW k ds fun xs => xs.length ≤ 1000000 ∧
      compW (fun x o => ∃ env', bindT tg x (wipeE env (own.map (·.2))) = some env' ∧ evC G c env' (fun b => if b = true then ev G elt env' (fun y => o (some y)) (fun _ => False) else o none)) xs fun r => Q (.lst true r)) Z
def evs (G : Gam) : List E → Env' → (List D → Prop) → (Err → Prop) → Prop
  | [], _, Q, _ => Q []
  | e :: es, env, Q, Z => ev G e env (fun d => evs G es env (fun ds => Q (d :: ds)) Z) Z
def evO (G : Gam) : Option E → Env' → (Option Int → Prop) → (Err → Prop) → Prop
  | none, _, Q, _ => Q none
  | some e, env, Q, Z => ev G e env (fun d => ∃ i, d = .int i ∧ Q (some i)) Z
/-- a comprehension's test -/
def evC (G : Gam) : Option E → Env' → (Bool → Prop) → Prop
  | none, _, Q => Q true
  | some e, env, Q => ev G e env (fun d => ∃ b, truthD d = some b ∧ Q b) (fun _ => False)
def evAnd (G : Gam) : List E → Env' → (D → Prop) → (Err → Prop) → Prop
  | [], _, _, _ => False
  | [e], env, Q, Z => ev G e env Q Z
  | e :: e' :: es, env, Q, Z => ev G e env (fun x => ∃ b, x = .bl b ∧ if b = true then evAnd G (e' :: es) env Q Z else Q (.bl false)) Z
def evOr (G : Gam) : List E → Env' → (D → Prop) → (Err → Prop) → Prop
  | [], _, _, _ => False
  | [e], env, Q, Z => ev G e env Q Z
  | e :: e' :: es, env, Q, Z => ev G e env (fun x => ∃ b, x = .bl b ∧ if b = true then Q (.bl true) else evOr G (e' :: es) env Q Z) Z
end
/-! ## the check against the row's terms -/
def isStar : Expr → Bool
  | .Starred _ _ => true
  | _ => false
def isSlice : Expr → Bool
  | .Slice _ _ _ _ => true
  | _ => false
def isSet : Expr → Bool
  | .Set _ _ _ => true
  | _ => false
def okName (x : Str) : Bool := !(x == ("__debug__" : Str)) && !(x == ("__classdict__" : Str)) && !decide (x = ("__name__" : Str))
def visB (sc : Scope) (x : Str) : Bool := match sc.names.lookup x with
  | some .local => true
  | some .cell => true
  | some .free => true
  | _ => false
def locB (sc : Scope) (x : Str) : Bool := match sc.names.lookup x with
  | some .local => true
  | some .cell => true
  | _ => false
def gloB (sc : Scope) (x : Str) : Bool := decide (sc.names.lookup x = some .globalImplicit)
mutual
def chkT (N : List Str) (sc : Scope) : Tg → Expr → Bool
  | .name i, .Name x _ => decide (N[i]? = some x) && locB sc x
  | .tup ts, .Tuple es _ _ => chkTs N sc ts es
  | _, _ => false
def chkTs (N : List Str) (sc : Scope) : List Tg → List Expr → Bool
  | [], [] => true
  | t :: ts, e :: es => !isStar e && (chkT N sc t e && chkTs N sc ts es)
  | _, _ => false
end
/-- the terms that a walk is made of -/
def isNm : Expr → Bool
  | .Name _ _ => true
  | _ => false
def nameIs (sc : Scope) (x : Str) : Expr → Bool
  | .Name g _ => decide (g = x) && gloB sc g
  | _ => false
def isTup : Expr → Bool
  | .Tuple _ _ _ => true
  | _ => false
def callX (sc : Scope) (x : Str) : Expr → Option (List Expr)
  | .Call f xs [] _ => if nameIs sc x f = true then some xs else none
  | _ => none
def srcX (sc : Scope) (k : It) (t it : Expr) : Option (List Expr) := match k with
  | .seq => if isSet it then none else some [it]
  | .rng => callX sc "range" it
  | .enm => if isTup t then callX sc "enumerate" it else none
  | .zip => if isTup t then callX sc "zip" it else none
  | .rng3 => callX sc "range" it
/-- how many terms a walk may have -/
def srcN : It → Nat → Bool
  | .seq, m => m == 1
  | .rng, m => m == 1 || m == 2
  | .enm, m => m == 1
  | .zip, m => m == 2
  | .rng3, m => m == 3
mutual
def chk (G : Gam) (n : NB) (N : List Str) : Scope → E → Expr → Bool
  | sc, .var i, .Name x _ => decide (N[i]? = some x) && (visB sc x && okName x)
  | _, .int n, .Constant (.int m) _ _ => decide (n = m)
  | _, .bl a, .Constant (.bool b) _ _ => a == b
  | _, .non, .Constant .none _ _ => true
  | _, .str s, .Constant (.str z) _ _ => decide (s = z)
  | sc, .glo x, .Name y _ => decide (x = y) && (gloB sc y && okName y)
  | sc, .bin op a b, .BinOp x o y _ => decide (op = o) && (chk G n N sc a x && chk G n N sc b y)
  | sc, .neg a, .UnaryOp .USub x _ => chk G n N sc a x
  | sc, .cmp op a b, .Compare x [o] [y] _ => decide (op = o) && (!isSet y && (chk G n N sc a x && chk G n N sc b y))
  | sc, .chain op op' a b c, .Compare x [o, o'] [y, z] _ => (decide (op = o) && decide (op' = o')) && ((!isSet y && !isSet z) && (chk G n N sc a x && (chk G n N sc b y && chk G n N sc c z)))
  | sc, .chain3 op op' op'' a b c d, .Compare x [o, o', o''] [y, z, u] _ => (decide (op = o) && (decide (op' = o') && decide (op'' = o''))) && ((!isSet y && (!isSet z && !isSet u)) && (chk G n N sc a x && (chk G n N sc b y && (chk G n N sc c z && chk G n N sc d u))))
  | sc, .and es, .BoolOp .And xs _ => chks G n N sc es xs
  | sc, .or es, .BoolOp .Or xs _ => chks G n N sc es xs
  | sc, .not a, .UnaryOp .Not x _ => chk G n N sc a x
  | sc, .ite c a b, .IfExp z x y _ => chk G n N sc c z && (chk G n N sc a x && chk G n N sc b y)
  | sc, .tup es, .Tuple xs _ _ => chks G n N sc es xs && decide (xs.length ≤ 1000)
  | sc, .lst es, .List xs _ => chks G n N sc es xs && decide (xs.length ≤ 1000)
  | _, .dnew _, .Dict [] [] _ => true
  | sc, .idx a i, .Subscript x y _ => !isSlice y && (chk G n N sc a x && chk G n N sc i y)
  | sc, .sl a lo hi, .Subscript x (.Slice l h none _) _ => chk G n N sc a x && (chkO G n N sc lo l && chkO G n N sc hi h)
  | sc, .rev a, .Subscript x (.Slice none none (some (.UnaryOp .USub (.Constant (.int 1) _ _) _)) _) _ => chk G n N sc a x
  | sc, .call f es, .Call (.Name g _) (x :: xs) [] _ => ((decide (f < n.1) && (decide (f < G.gd) || n.2.2)) && (decide (G.nm f = g) && decide (es.length = G.ar f))) && ((gloB sc g && okName g) && chks G n N sc es (x :: xs))
  | sc, .blt b es, .Call (.Name g _) (x :: xs) [] _ => (decide (Str.ofString (bName b) = g) && (!(b == .repr) || n.2.2)) && ((gloB sc g && okName g) && chks G n N sc es (x :: xs))
  | sc, .isi a t, .Call (.Name g _) [x, .Name u _] [] _ => (decide (g = ("isinstance" : Str)) && decide (u = Str.ofString (tyName t))) && ((gloB sc g && gloB sc u) && (chk G n N sc a x && !isStar x))
  | sc, .said f e, .Call (.Name g _) [.Lambda ⟨[], [], none, [], [], none, []⟩ body scope _] [] _ => (n.2.1 && (decide (f < G.sn) && decide (G.snm f = g))) && ((gloB sc g && okName g) && (LamX.lamSB sc scope && chk G (n.1, false, false) N scope e body))
  | sc, .lrng tp src, .Call (.Name g _) [.Call (.Name r _) xs [] _] [] _ => (decide (g = (if tp = true then "tuple" else "list" : Str)) && (gloB sc g && okName g)) && ((decide (r = ("range" : Str)) && (gloB sc r && okName r)) && ((src.length == 1 || src.length == 2) && chks G n N sc src xs))
  | sc, .mget a k x, .Call (.Attribute o m apos) [y, z] [] cpos => (decide (m = ("get" : Str)) && (apos.endLine == cpos.line && isNm o)) && ((!isStar y && !isStar z) && (chk G n N sc a o && (chk G n N sc k y && chk G n N sc x z)))
  | sc, .dc own tg k src c key val, .DictComp kx vx [⟨t, it, ifs, 0⟩] scope _ =>
    (blkC N sc scope own && (srcN k src.length && match srcX sc k t it with
      | some xs => chks G n N sc src xs
      | none => false)) && ((chkT N scope tg t && tgIn tg (own.map (·.2))) && (chkC G n N (relS scope sc) c ifs && (chk G n N (relS scope sc) key kx && chk G n N (relS scope sc) val vx)))
  | sc, .lc own tg k src c elt, .ListComp x [⟨t, it, ifs, 0⟩] scope _ =>
    (blkC N sc scope own && (srcN k src.length && match srcX sc k t it with
      | some xs => chks G n N sc src xs
      | none => false)) && ((chkT N scope tg t && tgIn tg (own.map (·.2))) && (chkC G n N (relS scope sc) c ifs && chk G n N (relS scope sc) elt x))
  | _, _, _ => false
def chks (G : Gam) (n : NB) (N : List Str) : Scope → List E → List Expr → Bool
  | _, [], [] => true
  | sc, e :: es, x :: xs => !isStar x && (chk G n N sc e x && chks G n N sc es xs)
  | _, _, _ => false
def chkO (G : Gam) (n : NB) (N : List Str) : Scope → Option E → Option Expr → Bool
  | _, none, none => true
  | sc, some e, some x => chk G n N sc e x
  | _, _, _ => false
def chkC (G : Gam) (n : NB) (N : List Str) : Scope → Option E → List Expr → Bool
  | _, none, [] => true
  | sc, some e, [x] => chk G n N sc e x
  | _, _, _ => false
end
end Wk
end sec_W2

section sec_W3
set_option Elab.async false
set_option linter.all false
set_option maxRecDepth 100000
set_option maxHeartbeats 4000000
namespace Wk
open PySem L2
/-! ## ev is monotone -/
theorem binW_mono {op : Operator} {x y : D} {Q Q' : D → Prop} (h : ∀ d, Q d → Q' d) (a : binW op x y Q) : binW op x y Q' := by
  unfold binW at a ⊢
  split at a <;> first | exact h _ a | exact ⟨a.1, h _ a.2⟩ | exact a.elim
theorem cmpW_mono {op : CmpOp} {x y : D} {Q Q' : D → Prop} (h : ∀ d, Q d → Q' d) (a : cmpW op x y Q) : cmpW op x y Q' := by
  unfold cmpW at a ⊢
  split at a <;> first | exact h _ a | exact ⟨a.1, h _ a.2⟩ | (obtain ⟨k, e, q⟩ := a; exact ⟨k, e, h _ q⟩) | exact a.elim
theorem idxW_mono {x y : D} {Q Q' : D → Prop} (h : ∀ d, Q d → Q' d) (a : idxW x y Q) : idxW x y Q' := by
  unfold idxW at a ⊢
  split at a <;> first | (obtain ⟨d, e, q⟩ := a; exact ⟨d, e, h _ q⟩) | (obtain ⟨k, d, e, f, q⟩ := a; exact ⟨k, d, e, f, h _ q⟩) | exact a.elim
theorem slW_mono {x : D} {lo hi : Option Int} {Q Q' : D → Prop} (h : ∀ d, Q d → Q' d) (a : slW x lo hi Q) : slW x lo hi Q' := by
  unfold slW at a ⊢
  split at a <;> first | exact h _ a | exact a.elim
theorem revW_mono {x : D} {Q Q' : D → Prop} (h : ∀ d, Q d → Q' d) (a : revW x Q) : revW x Q' := by
  unfold revW at a ⊢
  split at a <;> first | exact h _ a | exact a.elim
theorem bltW_mono {b : B} {ds : List D} {Q Q' : D → Prop} (h : ∀ d, Q d → Q' d) (a : bltW b ds Q) : bltW b ds Q' := by
  unfold bltW at a ⊢
  split at a <;> first
    | exact h _ a
    | exact ⟨a.1, h _ a.2⟩
    | (obtain ⟨ns, e, q⟩ := a; exact ⟨ns, e, h _ q⟩)
    | (obtain ⟨ns, e, l, q⟩ := a; exact ⟨ns, e, l, fun m h1 h2 => h _ (q m h1 h2)⟩)
    | exact a.elim
theorem srcW_mono {k : It} {ds : List D} {Q Q' : List D → Prop} (h : ∀ d, Q d → Q' d) (a : srcW k ds Q) : srcW k ds Q' := by
  unfold srcW at a ⊢
  split at a <;> first
    | exact h _ a
    | (obtain ⟨ns, e, q⟩ := a; exact ⟨ns, e, h _ q⟩)
    | exact ⟨a.1, a.2.1, h _ a.2.2⟩
    | exact ⟨a.1, h _ a.2⟩
    | exact a.elim
theorem compW_mono {f f' : D → (Option D → Prop) → Prop} (hf : ∀ d R R', (∀ o, R o → R' o) → f d R → f' d R') : ∀ {ds : List D} {Q Q' : List D → Prop}, (∀ r, Q r → Q' r) → compW f ds Q → compW f' ds Q'
  | [], _, _, h, a => h _ a
  | d :: ds, _, _, h, a => hf d _ _ (fun o q => compW_mono hf (fun r q => h _ q) q) a
theorem rgW_mono {ds : List D} {Q Q' : List D → Prop} (h : ∀ d, Q d → Q' d) (a : rgW ds Q) : rgW ds Q' := by
  unfold rgW at a ⊢
  split at a <;> first | exact ⟨a.1, h _ a.2⟩ | exact a.elim
theorem getW_mono {x y z : D} {Q Q' : D → Prop} (h : ∀ d, Q d → Q' d) (a : getW x y z Q) : getW x y z Q' := by
  unfold getW at a ⊢
  split at a <;> first | (obtain ⟨k, e, q⟩ := a; exact ⟨k, e, h _ q⟩) | exact a.elim
theorem dcW_mono {f f' : D → (Option (L2.Key × D) → Prop) → Prop} (hf : ∀ d R R', (∀ o, R o → R' o) → f d R → f' d R') : ∀ {ds : List D} {acc : List (L2.Key × D)} {Q Q' : List (L2.Key × D) → Prop}, (∀ r, Q r → Q' r) → dcW f ds acc Q → dcW f' ds acc Q'
  | [], _, _, _, h, a => h _ a
  | d :: ds, _, _, _, h, a => hf d _ _ (fun o q => dcW_mono hf h q) a
theorem mc_mono {C : Con} {ds : List D} {Q Q' : D → Prop} {Z Z' : Err → Prop} (h : ∀ d, Q d → Q' d) (z : ∀ e, Z e → Z' e) (a : mc C ds Q Z) : mc C ds Q' Z' := by
  obtain ⟨q, y, c, h1, h2⟩ := a
  exact ⟨q, y, c, fun d p => h d (h1 d p), fun e p => z e (h2 e p)⟩
mutual
theorem ev_mono (G : Gam) : ∀ (e : E) {env : Env'} {Q Q' : D → Prop} {Z Z' : Err → Prop}, (∀ d, Q d → Q' d) → (∀ e, Z e → Z' e) → ev G e env Q Z → ev G e env Q' Z'
  | .var i, env, Q, Q', Z, Z', h, z, a => by
    obtain ⟨d, e, q⟩ := a
    exact ⟨d, e, h _ q⟩
  | .int n, env, Q, Q', Z, Z', h, z, a => h _ a
  | .bl n, env, Q, Q', Z, Z', h, z, a => h _ a
  | .non, env, Q, Q', Z, Z', h, z, a => h _ a
  | .str n, env, Q, Q', Z, Z', h, z, a => h _ a
  | .glo x, env, Q, Q', Z, Z', h, z, a => by
    obtain ⟨d, e, q⟩ := a
    exact ⟨d, e, h _ q⟩
  | .bin op x y, env, Q, Q', Z, Z', h, z, a => by
    simp only [ev] at a ⊢
    exact ev_mono G x (fun d q => ev_mono G y (fun d' q => binW_mono h q) z q) z a
  | .neg x, env, Q, Q', Z, Z', h, z, a => by
    simp only [ev] at a ⊢
    exact ev_mono G x (fun d ⟨i, e, q⟩ => ⟨i, e, h _ q⟩) z a
  | .cmp op x y, env, Q, Q', Z, Z', h, z, a => by
    simp only [ev] at a ⊢
    exact ev_mono G x (fun d q => ev_mono G y (fun d' q => cmpW_mono h q) z q) z a
  | .chain op op' x y w, env, Q, Q', Z, Z', h, z, a => by
    simp only [ev] at a ⊢
    refine ev_mono G x (fun d q => ev_mono G y (fun d' q => cmpW_mono (fun r ⟨k, e, q⟩ => ⟨k, e, ?_⟩) q) z q) z a
    split at q
    · rename_i hk
      rw [if_pos hk]
      exact ev_mono G w (fun d' q => cmpW_mono h q) z q
    · rename_i hk
      rw [if_neg hk]
      exact h _ q
  | .chain3 op op' op'' x y w u, env, Q, Q', Z, Z', h, z, a => by
    simp only [ev] at a ⊢
    refine ev_mono G x (fun d q => ev_mono G y (fun d' q => cmpW_mono (fun r ⟨k, e, q⟩ => ⟨k, e, ?_⟩) q) z q) z a
    split at q
    · rename_i hk
      rw [if_pos hk]
      refine ev_mono G w (fun d' q => cmpW_mono (fun r ⟨k', e', q⟩ => ⟨k', e', ?_⟩) q) z q
      split at q
      · rename_i hk'
        rw [if_pos hk']
        exact ev_mono G u (fun d' q => cmpW_mono h q) z q
      · rename_i hk'
        rw [if_neg hk']
        exact h _ q
    · rename_i hk
      rw [if_neg hk]
      exact h _ q
  | .lrng tp src, env, Q, Q', Z, Z', h, z, a => by
    simp only [ev] at a ⊢
    exact evs_mono G src (fun ds q => rgW_mono (fun xs q => h _ q) q) z a
  | .mget x y w, env, Q, Q', Z, Z', h, z, a => by
    simp only [ev] at a ⊢
    exact ev_mono G x (fun d ⟨i, q⟩ => ⟨i, ev_mono G y (fun d' q => ev_mono G w (fun d'' q => getW_mono h q) z q) z q⟩) z a
  | .dc own tg k src c key val, env, Q, Q', Z, Z', h, z, a => by
    simp only [ev] at a ⊢
    exact evs_mono G src (fun ds q => srcW_mono (fun xs ⟨l, q⟩ => ⟨l, dcW_mono (fun x R R' hR ⟨env', b, q⟩ => ⟨env', b, evC_mono G c (fun bb q => by
      cases bb with
      | true => exact ev_mono G key (fun y ⟨kk, e, q⟩ => ⟨kk, e, ev_mono G val (fun z q => hR _ q) (fun _ z => z) q⟩) (fun _ z => z) q
      | false => exact hR _ q) q⟩) (fun r q => h _ q) q⟩) q) z a
  | .and es, env, Q, Q', Z, Z', h, z, a => by
    simp only [ev] at a ⊢
    exact evAnd_mono G es h z a
  | .or es, env, Q, Q', Z, Z', h, z, a => by
    simp only [ev] at a ⊢
    exact evOr_mono G es h z a
  | .not x, env, Q, Q', Z, Z', h, z, a => by
    simp only [ev] at a ⊢
    exact ev_mono G x (fun d ⟨i, e, q⟩ => ⟨i, e, h _ q⟩) z a
  | .ite c x y, env, Q, Q', Z, Z', h, z, a => by
    simp only [ev] at a ⊢
    refine ev_mono G c (fun d ⟨k, e, q⟩ => ⟨k, e, ?_⟩) z a
    split at q
    · rename_i hk
      rw [if_pos hk]
      exact ev_mono G x h z q
    · rename_i hk
      rw [if_neg hk]
      exact ev_mono G y h z q
  | .tup es, env, Q, Q', Z, Z', h, z, a => by
    simp only [ev] at a ⊢
    exact evs_mono G es (fun d q => h _ q) z a
  | .lst es, env, Q, Q', Z, Z', h, z, a => by
    simp only [ev] at a ⊢
    exact evs_mono G es (fun d q => h _ q) z a
  | .dnew t, env, Q, Q', Z, Z', h, z, a => by
    simp only [ev] at a ⊢
    split at a
    · rename_i hk
      rw [if_pos hk]
      exact h _ a
    · rename_i hk
      rw [if_neg hk]
      exact h _ a
  | .idx x y, env, Q, Q', Z, Z', h, z, a => by
    simp only [ev] at a ⊢
    exact ev_mono G x (fun d q => ev_mono G y (fun d' q => idxW_mono h q) z q) z a
  | .sl x lo hi, env, Q, Q', Z, Z', h, z, a => by
    simp only [ev] at a ⊢
    exact ev_mono G x (fun d q => evO_mono G lo (fun l q => evO_mono G hi (fun u q => slW_mono h q) z q) z q) z a
  | .rev x, env, Q, Q', Z, Z', h, z, a => by
    simp only [ev] at a ⊢
    exact ev_mono G x (fun d q => revW_mono h q) z a
  | .call f es, env, Q, Q', Z, Z', h, z, a => by
    simp only [ev] at a ⊢
    exact evs_mono G es (fun d q => mc_mono h z q) z a
  | .blt b es, env, Q, Q', Z, Z', h, z, a => by
    simp only [ev] at a ⊢
    exact evs_mono G es (fun d q => bltW_mono h q) z a
  | .said f x, env, Q, Q', Z, Z', h, z, a => by
    simp only [ev] at a ⊢
    exact ev_mono G x (fun d q => ms_mono h q) (fun e q => ms_mono h q) a
  | .isi x t, env, Q, Q', Z, Z', h, z, a => by
    simp only [ev] at a ⊢
    exact ev_mono G x (fun d q => h _ q) z a
  | .lc own tg k src c elt, env, Q, Q', Z, Z', h, z, a => by
    simp only [ev] at a ⊢
    refine evs_mono G src (fun ds q => srcW_mono (fun xs ⟨l, q⟩ => ⟨l, compW_mono (fun d R R' hR ⟨env', e, q⟩ => ⟨env', e, ?_⟩) (fun r q => h _ q) q⟩) q) z a
    refine evC_mono G c (fun b q => ?_) q
    split at q
    · rename_i hk
      rw [if_pos hk]
      exact ev_mono G elt (fun y q => hR _ q) (fun _ q => q) q
    · rename_i hk
      rw [if_neg hk]
      exact hR _ q
theorem evs_mono (G : Gam) : ∀ (es : List E) {env : Env'} {Q Q' : List D → Prop} {Z Z' : Err → Prop}, (∀ d, Q d → Q' d) → (∀ e, Z e → Z' e) → evs G es env Q Z → evs G es env Q' Z'
  | [], env, Q, Q', Z, Z', h, z, a => by
    simp only [evs] at a ⊢
    exact h _ a
  | e :: es, env, Q, Q', Z, Z', h, z, a => by
    simp only [evs] at a ⊢
    exact ev_mono G e (fun d q => evs_mono G es (fun ds q => h _ q) z q) z a
theorem evO_mono (G : Gam) : ∀ (e : Option E) {env : Env'} {Q Q' : Option Int → Prop} {Z Z' : Err → Prop}, (∀ d, Q d → Q' d) → (∀ e, Z e → Z' e) → evO G e env Q Z → evO G e env Q' Z'
  | none, env, Q, Q', Z, Z', h, z, a => by
    simp only [evO] at a ⊢
    exact h _ a
  | some e, env, Q, Q', Z, Z', h, z, a => by
    simp only [evO] at a ⊢
    exact ev_mono G e (fun d ⟨i, e, q⟩ => ⟨i, e, h _ q⟩) z a
theorem evC_mono (G : Gam) : ∀ (e : Option E) {env : Env'} {Q Q' : Bool → Prop}, (∀ d, Q d → Q' d) → evC G e env Q → evC G e env Q'
  | none, env, Q, Q', h, a => by
    simp only [evC] at a ⊢
    exact h _ a
  | some e, env, Q, Q', h, a => by
    simp only [evC] at a ⊢
    exact ev_mono G e (fun d ⟨i, e, q⟩ => ⟨i, e, h _ q⟩) (fun _ q => q) a
theorem evAnd_mono (G : Gam) : ∀ (es : List E) {env : Env'} {Q Q' : D → Prop} {Z Z' : Err → Prop}, (∀ d, Q d → Q' d) → (∀ e, Z e → Z' e) → evAnd G es env Q Z → evAnd G es env Q' Z'
  | [], env, Q, Q', Z, Z', h, z, a => by
    simp only [evAnd] at a
  | [e], env, Q, Q', Z, Z', h, z, a => by
    simp only [evAnd] at a ⊢
    exact ev_mono G e h z a
  | e :: e' :: es, env, Q, Q', Z, Z', h, z, a => by
    rw [evAnd] at a ⊢
    refine ev_mono G e (fun d ⟨k, e, q⟩ => ⟨k, e, ?_⟩) z a
    split at q
    · rename_i hk
      rw [if_pos hk]
      exact evAnd_mono G (e' :: es) h z q
    · rename_i hk
      rw [if_neg hk]
      exact h _ q
theorem evOr_mono (G : Gam) : ∀ (es : List E) {env : Env'} {Q Q' : D → Prop} {Z Z' : Err → Prop}, (∀ d, Q d → Q' d) → (∀ e, Z e → Z' e) → evOr G es env Q Z → evOr G es env Q' Z'
  | [], env, Q, Q', Z, Z', h, z, a => by
    simp only [evOr] at a
  | [e], env, Q, Q', Z, Z', h, z, a => by
    simp only [evOr] at a ⊢
    exact ev_mono G e h z a
  | e :: e' :: es, env, Q, Q', Z, Z', h, z, a => by
    rw [evOr] at a ⊢
    refine ev_mono G e (fun d ⟨k, e, q⟩ => ⟨k, e, ?_⟩) z a
    split at q
    · rename_i hk
      rw [if_pos hk]
      exact h _ q
    · rename_i hk
      rw [if_neg hk]
      exact evOr_mono G (e' :: es) h z q
end
end Wk
end sec_W3

section sec_W4
set_option Elab.async false
set_option linter.all false
set_option maxRecDepth 100000
set_option maxHeartbeats 4000000
namespace Wk
open PySem L2
/-! ## heaps -/
/-- the hand that draws -/
def HandOk (K : Frag) (hd : Option Addr) (F H : Hp) : Prop := ∀ a, hd = some a → F a = none ∧ ∃ (c : Addr) (cs : List Int) (i : Nat) (b m n : Int),
  H a = some (.lst [.ref c, .int i, .int b, .int m, .int n]) ∧ F c = some (.lst (cs.map V.int)) ∧ (∀ x ∈ cs, 0 ≤ x) ∧ 0 ≤ b ∧ 0 ≤ m ∧ 0 ≤ n
/-- the tables of code objects that are kept -/
class Tab where
  T : List (Addr × Str)
variable [Tab]
/-- no table -/
def NT (o : HO) : Prop := ∀ ps, o ≠ .tbl ps
structure Good (K : Frag) (hd : Option Addr) (F H : Hp) : Prop where
  sub : Same F H
  hand : HandOk K hd F H
  tab : LamX.Tabs Tab.T H
  fnt : ∀ a o, F a = some o → NT o
/-- a list, a dict -/
def noTup : HO → Bool
  | .lst _ => true
  | .dK _ => true
  | .dT _ => true
  | _ => false
theorem NT.of {o : HO} (h : noTup o = true) : NT o := fun ps z => by subst z; cases h
theorem NT.tup {vs : List V} : NT (.tup vs) := fun ps z => by cases z
theorem NT.lst {vs : List V} : NT (.lst vs) := fun ps z => by cases z
theorem Tabs.write {T : List (Addr × Str)} {H : Hp} {p : Addr} {u o : HO} (t : LamX.Tabs T H) (h : H p = some u) (n : noTup u = true) : LamX.Tabs T (L2.upd H p o) := fun q hq => by
  obtain ⟨ps, h1, h2, h3⟩ := t q hq
  have ne : q.1 ≠ p := fun z => by
    rw [z, h] at h1; cases h1; cases n
  refine ⟨ps, by rw [upd_ne ne]; exact h1, h2, fun pos cv hc => ?_⟩
  obtain ⟨c, e1, e2⟩ := h3 pos cv hc
  refine ⟨c, e1, ?_⟩
  have nc : c ≠ p := fun z => by
    rw [z, h] at e2
    unfold LamX.CodeO at e2
    cases e2; cases n
  rw [upd_ne nc]; exact e2
theorem Tabs.new {T : List (Addr × Str)} {H : Hp} {p : Addr} {o : HO} (t : LamX.Tabs T H) (h : H p = none) : LamX.Tabs T (L2.upd H p o) := t.ext fun b u e => by rw [upd_ne (ne_of_none e h)]; exact e
structure Ext (K : Frag) (hd : Option Addr) (F H F' H' : Hp) : Prop where
  sf : Same F F'
  good : Good K hd F' H'
  keep : ∀ a o, hd ≠ some a → H a = some o → NT o → H' a = some o
  nof : ∀ a o, H a = some o → NT o → F a = none → F' a = none
  hc : ∀ a c r, hd = some a → H a = some (.lst (.ref c :: r)) → ∃ r', H' a = some (.lst (.ref c :: r'))
section
variable {K : Frag} {hd : Option Addr} {F H F1 H1 F2 H2 F3 H3 : Hp}
theorem Ext.refl (g : Good K hd F H) : Ext K hd F H F H := ⟨Same.refl F, g, fun _ _ _ h _ => h, fun _ _ _ _ h => h, fun _ _ r _ h => ⟨r, h⟩⟩
/-- free, but for a table -/
def FN (H : Hp) (a : Addr) : Prop := ∀ o, H a = some o → ¬ NT o
theorem FN.of {H : Hp} {a : Addr} (h : H a = none) : FN H a := fun o e => by rw [h] at e; cases e
theorem HandOk.there {a : Addr} (h : HandOk K hd F H) (e : hd = some a) : ∃ o, H a = some o ∧ NT o := by
  obtain ⟨_, c, cs, i, b, m, n, q, _⟩ := h a e
  exact ⟨_, q, NT.lst⟩
theorem Ext.there (e : Ext K hd F H F1 H1) {a : Addr} {o : HO} (h : H a = some o) (t : NT o) : ∃ o', H1 a = some o' ∧ NT o' := by
  by_cases q : hd = some a
  · exact e.good.hand.there q
  · exact ⟨o, e.keep a o q h t, t⟩
theorem Ext.back (e : Ext K hd F H F1 H1) {a : Addr} (h : FN H1 a) : FN H a := fun o q t => by
  obtain ⟨o', q', t'⟩ := e.there q t
  exact h o' q' t'
theorem Ext.trans (a : Ext K hd F H F1 H1) (b : Ext K hd F1 H1 F2 H2) : Ext K hd F H F2 H2 where
  sf := a.sf.trans b.sf
  good := b.good
  keep := fun c o n h t => b.keep c o n (a.keep c o n h t) t
  nof := fun c o h t f => by
    obtain ⟨o', q, t'⟩ := a.there h t
    exact b.nof c o' q t' (a.nof c o h t f)
  hc := fun x c r e h => by
    obtain ⟨r', h'⟩ := a.hc x c r e h
    exact b.hc x c r' e h'
/-- T: what is new and somebody's own -/
def Own (F H H' : Hp) (T : ASet) : Prop := ∀ a, T a → FN H a ∧ F a = none ∧ ∃ o, H' a = some o ∧ noTup o = true
theorem Own.none : Own F H H1 (fun _ => False) := fun _ h => h.elim
theorem Own.sub {T T' : ASet} (h : Own F H H1 T) (s : ∀ a, T' a → T a) : Own F H H1 T' := fun a t => h a (s a t)
theorem Own.notHand {T : ASet} (g : HandOk K hd F H) {F' : Hp} (h : Own F' H H1 T) {a : Addr} (t : T a) : hd ≠ some a := fun e => by
  obtain ⟨o, q, nt⟩ := g.there e
  exact (h a t).1 o q nt
/-- what was own stays so behind a further step -/
theorem Own.later {T : ASet} (h : Own F1 H H1 T) (g : HandOk K hd F H) (e : Ext K hd F1 H1 F2 H2) : Own F2 H H2 T := fun a t => by
  obtain ⟨h1, h2, o, h3, h4⟩ := h a t
  exact ⟨h1, e.nof a o h3 (NT.of h4) h2, o, e.keep a o (Own.notHand g h t) h3 (NT.of h4), h4⟩
theorem Own.first {T : ASet} (e : Ext K hd F H F1 H1) (h : Own F2 H1 H2 T) : Own F2 H H2 T := fun a t => ⟨e.back (h a t).1, (h a t).2⟩
theorem Own.or {T T' : ASet} (h : Own F H H1 T) (h' : Own F H H1 T') : Own F H H1 (fun a => T a ∨ T' a) := fun a t => t.elim (h a) (h' a)
theorem Own.apart {T T' : ASet} (h : Own F1 H H1 T) (h' : Own F2 H1 H2 T') : ∀ a, T a → ¬ T' a := fun a t t' => by
  obtain ⟨_, _, o, q, k⟩ := h a t
  exact (h' a t').1 o q (NT.of k)
theorem Own.nt {T : ASet} (h : Own F H H1 T) {a : Addr} (t : T a) {u : HO} (q : H1 a = some u) : NT u := by
  obtain ⟨_, _, o, h3, h4⟩ := h a t
  rw [q] at h3
  cases h3
  exact NT.of h4
theorem Rep.later {d : D} {v : V} {T : ASet} (r : Rep K F1 H1 hd d v T) (o : Own F1 H H1 T) (g : HandOk K hd F H) (e : Ext K hd F1 H1 F2 H2) : Rep K F2 H2 hd d v T :=
  Rep.mono e.sf r (fun a u t q => e.keep a u (Own.notHand g o t) q (o.nt t q)) fun _ t => t
theorem Reps.later {d : List D} {v : List V} {T : ASet} (r : Reps K F1 H1 hd d v T) (o : Own F1 H H1 T) (g : HandOk K hd F H) (e : Ext K hd F1 H1 F2 H2) : Reps K F2 H2 hd d v T :=
  Reps.mono e.sf r (fun a u t q => e.keep a u (Own.notHand g o t) q (o.nt t q)) fun _ t => t
/-- frozen data stay as they are -/
theorem Rep.frozen {d : D} {v : V} (r : Rep K F H hd d v fun _ => False) (s : Same F F1) : Rep K F1 H1 hd d v fun _ => False := Rep.mono s r (fun _ _ t => t.elim) fun _ t => t
theorem Reps.frozen {d : List D} {v : List V} (r : Reps K F H hd d v fun _ => False) (s : Same F F1) : Reps K F1 H1 hd d v fun _ => False := Reps.mono s r (fun _ _ t => t.elim) fun _ t => t
theorem Good.newF {p : Addr} {o : HO} (g : Good K hd F H) (h : H p = none) (nt : NT o) : Good K hd (upd F p o) (upd H p o) := by
  have fp : F p = none := g.sub.free h
  refine ⟨fun a u e => ?_, fun a e => ?_, ?_, ?_⟩
  · by_cases q : a = p
    · subst q; rw [upd_same] at e ⊢; exact e
    · rw [upd_ne q] at e ⊢; exact g.sub a u e
  · obtain ⟨f, c, cs, i, b, m, n, q, r, s⟩ := g.hand a e
    have ne : a ≠ p := fun z => by subst z; rw [h] at q; cases q
    have ne' : c ≠ p := fun z => by subst z; rw [fp] at r; cases r
    exact ⟨by rw [upd_ne ne]; exact f, c, cs, i, b, m, n, by rw [upd_ne ne]; exact q, by rw [upd_ne ne']; exact r, s⟩
  · exact Tabs.new g.tab h
  · intro a u e
    by_cases q : a = p
    · subst q; rw [upd_same] at e; cases e; exact nt
    · rw [upd_ne q] at e; exact g.fnt a u e
theorem Good.newO {p : Addr} {o : HO} (g : Good K hd F H) (h : H p = none) : Good K hd F (upd H p o) := by
  refine ⟨fun a u e => ?_, fun a e => ?_, ?_, ?_⟩
  · have q : a ≠ p := fun z => by
      subst z
      rw [g.sub a u e] at h; cases h
    rw [upd_ne q]; exact g.sub a u e
  · obtain ⟨f, c, cs, i, b, m, n, q, r⟩ := g.hand a e
    have ne : a ≠ p := fun z => by subst z; rw [h] at q; cases q
    exact ⟨f, c, cs, i, b, m, n, by rw [upd_ne ne]; exact q, r⟩
  · exact Tabs.new g.tab h
  · exact g.fnt
/-- a new frozen object -/
theorem Ext.newF {p : Addr} {o : HO} (g : Good K hd F H) (h : H p = none) (nt : NT o) : Ext K hd F H (upd F p o) (upd H p o) where
  sf := same_updF h g.sub
  good := g.newF h nt
  keep := fun a u _ e _ => by rw [upd_ne (ne_of_none e h)]; exact e
  nof := fun a u e _ f => by rw [upd_ne (ne_of_none e h)]; exact f
  hc := fun a c r _ e => ⟨r, by rw [upd_ne (ne_of_none e h)]; exact e⟩
where
  same_updF {F H : Hp} {p : Addr} {o : HO} (h : H p = none) (s : Same F H) : Same F (upd F p o) := fun a u e => by
    rw [upd_ne (ne_of_none e (s.free h))]; exact e
/-- a new object of one's own -/
theorem Ext.newO {p : Addr} {o : HO} (g : Good K hd F H) (h : H p = none) : Ext K hd F H F (upd H p o) where
  sf := Same.refl F
  good := g.newO h
  keep := fun a u _ e _ => by rw [upd_ne (ne_of_none e h)]; exact e
  nof := fun a u e _ f => f
  hc := fun a c r _ e => ⟨r, by rw [upd_ne (ne_of_none e h)]; exact e⟩
/-- F with the cells of T -/
def frz (F H : Hp) (T : ASet) [DecidablePred T] : Hp := fun a => if T a then H a else F a
open Classical in
/-- what was one's own is frozen -/
noncomputable def fz (F H : Hp) (T : ASet) : Hp := fun a => if T a then H a else F a
open Classical in
theorem fz_in {T : ASet} {a : Addr} (t : T a) : fz F H T a = H a := by unfold fz; rw [if_pos t]
open Classical in
theorem fz_out {T : ASet} {a : Addr} (t : ¬ T a) : fz F H T a = F a := by unfold fz; rw [if_neg t]
theorem fz_sub {T : ASet} (s : Same F H) : Same F (fz F H T) := fun a o e => by
  by_cases t : T a
  · rw [fz_in t]; exact s a o e
  · rw [fz_out t]; exact e
theorem fz_le {T : ASet} (s : Same F H) : Same (fz F H T) H := fun a o e => by
  by_cases t : T a
  · rw [fz_in t] at e; exact e
  · rw [fz_out t] at e; exact s a o e
theorem Good.fz {T : ASet} (g : Good K hd F H) (n : ∀ a, T a → hd ≠ some a) (nt : ∀ a o, T a → H a = some o → NT o) : Good K hd (Wk.fz F H T) H := ⟨fz_le g.sub, fun a e => by
  obtain ⟨f, c, cs, i, b, m, k, q, r, s⟩ := g.hand a e
  exact ⟨by rw [fz_out fun t => n a t e]; exact f, c, cs, i, b, m, k, q, fz_sub g.sub _ _ r, s⟩, g.tab, fun a o q => by
    by_cases t : T a
    · rw [fz_in t] at q; exact nt a o t q
    · rw [fz_out t] at q; exact g.fnt a o q⟩
/-- behind an evaluation its own new cells are frozen -/
theorem Ext.fz {T : ASet} (e : Ext K hd F H F1 H1) (g : HandOk K hd F H) (o : Own F1 H H1 T) : Ext K hd F H (Wk.fz F1 H1 T) H1 where
  sf := e.sf.trans (fz_sub e.good.sub)
  good := e.good.fz (fun a t => Own.notHand g o t) fun a u t q => o.nt t q
  keep := e.keep
  nof := fun a u h nt f => by
    have n : ¬ T a := fun t => (o a t).1 u h nt
    rw [fz_out n]; exact e.nof a u h nt f
  hc := e.hc
theorem Rep.fz {d : D} {v : V} {T : ASet} (r : Rep K F H hd d v T) (s : Same F H) : Rep K (Wk.fz F H T) H1 hd (Wk.fr d) v fun _ => False :=
  Rep.fr (fz_sub s) r fun a o t q => by rw [fz_in t]; exact q
theorem Reps.fz {d : List D} {v : List V} {T : ASet} (r : Reps K F H hd d v T) (s : Same F H) : Reps K (Wk.fz F H T) H1 hd (Wk.frs d) v fun _ => False :=
  Reps.fr (fz_sub s) r fun a o t q => by rw [fz_in t]; exact q
end
/-! ## what an evaluation gives -/
/-- wished of data: whatever value they lie at -/
def R1 (K : Frag) (hd : Option Addr) (F H : Hp) (Q : V → Hp → Prop) : D → Prop := fun d => ∀ v F' H' T, Ext K hd F H F' H' → Own F' H H' T → Rep K F' H' hd d v T → Q v H'
def RL (K : Frag) (hd : Option Addr) (F H : Hp) (Q : List V → Hp → Prop) : List D → Prop := fun d => ∀ v F' H' T, Ext K hd F H F' H' → Own F' H H' T → Reps K F' H' hd d v T → Q v H'
/-- how an error lies -/
def ErrRep (mg : Str → Option Value) (e : Err) (c : Value) (dx : Option Addr) (H : Hp) : Prop := (∃ C : Addr, mg e.cls = some (.ref C) ∧ c = .ref C) ∧ e.arg.isNone = true ∧ dx = none
def RZ (K : Frag) (mg : Str → Option Value) (hd : Option Addr) (F H : Hp) (W : Value → Option Addr → Hp → Prop) : Err → Prop := fun e => ∀ c dx F' H', Ext K hd F H F' H' → ErrRep mg e c dx H' → W c dx H'
theorem RZ.later {K : Frag} {mg : Str → Option Value} {hd : Option Addr} {F H F1 H1 : Hp} {W : Value → Option Addr → Hp → Prop} {e : Err} (x : Ext K hd F H F1 H1) (h : RZ K mg hd F H W e) : RZ K mg hd F1 H1 W e :=
  fun c dx F' H' x' r => h c dx F' H' (x.trans x') r
/-- the names' data, frozen -/
structure EnvF (K : Frag) (F H : Hp) (hd : Option Addr) (env : Env') (σ : St) : Prop where
  len : env.length = σ.length
  get : ∀ (i : Nat) (d : D), env[i]? = some (some d) → ∃ v, σ[i]? = some (some v) ∧ Rep K F H hd (fr d) v fun _ => False
theorem EnvF.later {K : Frag} {hd : Option Addr} {F H F1 H1 : Hp} {env : Env'} {σ : St} (h : EnvF K F H hd env σ) (s : Same F F1) : EnvF K F1 H1 hd env σ := ⟨h.len, fun i d e => by
  obtain ⟨v, q, r⟩ := h.get i d e
  exact ⟨v, q, Rep.frozen r s⟩⟩
/-- a def keeps a contract -/
def spOf (K : Frag) (mg : Str → Option Value) (n : Nat) (C : Con) : Sp := fun vs H Q E => ∃ F hd ds, Good K hd F H ∧ Reps K F H hd ds vs (fun _ => False) ∧ ds.length = n ∧ mc C ds (R1 K hd F H Q) (RZ K mg hd F H E)
/-- a def that is asked where nothing is being shown -/
structure FnOkG (P : Program) (w : World) (K : Frag) (mg : Str → Option Value) (base : Heap) (CX : CXT) (k : Nat) (f : Addr) (fd : FuncData) (ps : List Str) (sp : Sp) : Prop where
  ln : ∀ vs H Q E, sp vs H Q E → vs.length = ps.length
  go : ∀ (A : Around) (outer : List Env) (s : Shared) (H : Hp) (args : Args) (us : List Value) (vs : List V) (Q : VK) (E : XK), A.guards = some [] → Room k A → Env0 P w K mg base A outer s H → BindsTo s fd args (ps.zip us) → Vals vs us → sp vs H Q E →
    codeAny (model P w) A (.call (.ref f) args) (CR CX outer P w H s Q E) s
theorem FnOkG.of {P : Program} {w : World} {K : Frag} {mg : Str → Option Value} {base : Heap} {CX : CXT} {k : Nat} {f : Addr} {fd : FuncData} {ps : List Str} {sp : Sp} (F : FnOk P w K mg base CX k f fd ps sp) : FnOkG P w K mg base CX k f fd ps sp :=
  ⟨F.len, fun A outer s H args us vs Q E _ => F.run A outer s H args us vs Q E⟩
structure FOkG (X : Cx) (lev : Nat) (x : Str) (n : Nat) (C : Con) : Prop where
  ex : ∃ (f : Addr) (fd : FuncData) (ps : List Str) (k : Nat), X.mg x = some (.ref f) ∧ PySem.W.keepIn X.K (.ref f) = true ∧ Binds X.K fd ps [] ∧ k ≤ lev ∧ FnOkG X.prog X.w X.K X.mg X.base (L2.CX X.prog X.w) k f fd ps (spOf X.K X.mg n C)
/-- a call by a promise that asks for no showing -/
theorem run_fnG {X : Cx} {k : Nat} {f : Addr} {fd : FuncData} {ps : List Str} {sp : Sp} {pins : List (Addr × Obj)} {σ : St} {H : Hp} {s : Shared} {Q : VK} {us : List Value} {vs : List V} {E : XK} (F : FnOkG X.prog X.w X.K X.mg X.base (L2.CX X.prog X.w) k f fd ps sp) (hg : X.A.guards = some []) (hr : Room k X.A) (hb : Binds X.K fd ps [])
    (hx : PassesAt (L2.CX X.prog X.w) X σ E) (I : Inv X pins σ H s) (r : Vals vs us) (h : sp vs H Q E) : wpAny (model X.prog X.w) X.A (call (.ref f) us) (EP X pins σ Q) X.xe s := by
  have e : us.length = ps.length := r.length.symm.trans (F.ln _ _ _ _ h)
  have bd : BindsTo s fd ⟨us, []⟩ (ps.zip us) := by
    have z := hb s us I.kIn (by simpa using e)
    simpa using z
  have go := F.go X.A X.stack s H ⟨us, []⟩ us vs Q E hg hr I.env0 bd r h
  refine wpAny_call (codeAny_mono go fun out s' hq => ?_)
  match out, hq with
  | .error z, hq => exact hx pins H s z s' I hq
  | .ok (.ret u), hq => exact I.after hq
  | .ok .next, hq => exact hq.elim
  | .ok .brk, hq => exact hq.elim
  | .ok .cont, hq => exact hq.elim
theorem pe_callG {X : Cx} {k : Nat} {f : Addr} {fd : FuncData} {ps : List Str} {sp : Sp} {x : Str} {p pos : Pos} {e : Expr} {es : List Expr} {t : TA} {E : St → XK} (F : FnOkG X.prog X.w X.K X.mg X.base (L2.CX X.prog X.w) k f fd ps sp) (hgd : X.A.guards = some []) (hr : Room k X.A) (hg : Gl X x) (hm : X.mg x = some (.ref f))
    (hk : PySem.W.keepIn X.K (.ref f) = true) (hb : Binds X.K fd ps []) (hx : ∀ σ, PassesAt (L2.CX X.prog X.w) X σ (E σ)) (ha : L2.PA X (e :: es) t) (hdb : (x == ("__debug__" : Str)) = false) (he : starEach (e :: es) X.env = (false, eval e X.env) :: starEach es X.env)
    (hpl : (backTo pos (starEach es X.env)).any (·.1) = false) : PE X (.Call (.Name x p) (e :: es) [] pos) (tCallS sp E t) := ⟨fun pins s σ H Q I h => by
  have body := ha.run pos pins s σ H _ I h
  refine wpAny_Call_Name_kw (ld_glob I hg hm (PySem.W.callWith_K (h₀ := X.base) I.ok.mod.kin hk (thn body fun us t ⟨vs, G, J, r, q⟩ => ⟨J.kIn, ?_⟩) he hpl) hdb)
  exact run_fnG F hgd hr hb (hx σ) J r q⟩
structure FOk (X : Cx) (lev : Nat) (x : Str) (n : Nat) (C : Con) : Prop where
  ex : ∃ (f : Addr) (fd : FuncData) (ps : List Str) (k : Nat), X.mg x = some (.ref f) ∧ PySem.W.keepIn X.K (.ref f) = true ∧ Binds X.K fd ps [] ∧ k ≤ lev ∧ FnOk X.prog X.w X.K X.mg X.base (L2.CX X.prog X.w) k f fd ps (spOf X.K X.mg n C)
/-- what a def makes of a lambda's reading -/
def SaidTT (K : Frag) (mg : Str → Option Value) (C : Except Err D → (D → Prop) → Prop) (TT : (XK → Hp → VK → Prop) → Hp → VK → Prop) : Prop :=
  ∀ (tl : XK → Hp → VK → Prop) (H : Hp) (Q : VK) (F : Hp) (hd : Option Addr), Good K hd F H →
    (∀ (Ec : XK) (Qv : VK), (∀ d v F' H' T, Ext K hd F H F' H' → Own F' H H' T → Rep K F' H' hd d v T → ms C (.ok (Wk.fr d)) (R1 K hd F H Q) → Qv v H') →
      (∀ z c dx F' H', Ext K hd F H F' H' → ErrRep mg z c dx H' → ms C (.error z) (R1 K hd F H Q) → Ec c dx H') → tl Ec H Qv) → TT tl H Q
def SaidOk (X : Cx) (x : Str) (C : Except Err D → (D → Prop) → Prop) : Prop :=
  ∃ (a : Str) (g : Addr) (pg : Arguments) (bg : List Stmt) (sg : Scope) (dV kV doc pm cdv ct oc : Value) (an od : Option Addr) (osl : Array (Option Value)) (Ng : List Str) (TT : (XK → Hp → VK → Prop) → Hp → VK → Prop),
    X.mg x = some (.ref g) ∧ PySem.W.keepIn X.K (.ref g) = true ∧ X.K.lookup g = some ⟨oc, od, .func (PySem.W.fnOf x x pg bg sg dV kV doc pm an cdv ct), osl⟩ ∧ PySem.W.codeIn X.K cdv x = true ∧ L2.Binds X.K (PySem.W.fnOf x x pg bg sg dV kV doc pm an cdv ct) [a] [] ∧
    FnScope Ng [a] sg ∧ Ng[0]? = some a ∧ Vis sg a ∧ (a == ("__debug__" : Str)) = false ∧ (a == ("__classdict__" : Str)) = false ∧ LamX.GivesTo X Ng x sg g cdv bg a (X.env.qual ++ "<lambda>") TT ∧ SaidTT X.K X.mg C TT
structure LamOk (X : Cx) (G : Gam) : Prop where
  room : Room (G.lev + 2) X.A
  code : ∃ c P : Addr, LamX.TabB X.base X.mg c P ∧ X.env.code = .ref c ∧ (P, X.env.qual ++ "<lambda>") ∈ Tab.T ∧ ∀ p ∈ Tab.T, p.1 = P → p.2 = X.env.qual ++ "<lambda>"
  said : ∀ f, f < G.sn → SaidOk X (G.snm f) (G.said f)
def freeNames : List Str := ["len", "abs", "int", "tuple", "list", "min", "max", "sum", "all", "any", "isinstance", "bool", "str", "dict", "range", "enumerate", "zip", "sorted", "repr"]
structure XOk (X : Cx) (G : Gam) (n : NB) : Prop where
  nd : X.N.Nodup
  calm : X.calm = true
  ub : X.A.units + 100 < cLine
  free : ∀ x ∈ freeNames, X.mg x = none
  con : ∀ x i, G.con x = some i → ∃ t, X.mg x = some (.int i t)
  call : ∀ f, f < n.1 → f < G.gd → FOk X G.lev (G.nm f) (G.ar f) (G.call f)
  callG : ∀ f, f < n.1 → G.gd ≤ f → FOkG X G.lev (G.nm f) (G.ar f) (G.call f)
  gu : n.2.2 = true → X.A.guards = some []
  room : Room G.lev X.A
  lam : n.2.1 = true → LamOk X G
/-- an expression's reading by ev -/
def TV (X : Cx) (G : Gam) (W : WX) (e : E) : TE := fun σ H Q => ∃ F hd env, Good X.K hd F H ∧ EnvF X.K F H hd env σ ∧ ev G e env (R1 X.K hd F H Q) (RZ X.K X.mg hd F H fun c d H' => W c d σ H')
def TVs (X : Cx) (G : Gam) (W : WX) (es : List E) : TA := fun σ H Q => ∃ F hd env, Good X.K hd F H ∧ EnvF X.K F H hd env σ ∧ evs G es env (RL X.K hd F H Q) (RZ X.K X.mg hd F H fun c d H' => W c d σ H')
/-- truth of data, of values -/
def Tru (K : Frag) (Q : Bool → Hp → Prop) : V → Hp → Prop := fun v H => ∃ k, TruV K v H k ∧ Q k H
theorem _root_.L2.PE.imp {X : Cx} {e : Expr} {t t' : TE} (h : PE X e t) (i : ∀ σ H Q, t' σ H Q → t σ H Q) : PE X e t' := ⟨fun pins s σ H Q I q => h.run pins s σ H Q I (i σ H Q q)⟩
theorem _root_.L2.PT.imp {X : Cx} {e : Expr} {t t' : TT} (h : PT X e t) (i : ∀ σ H Q, t' σ H Q → t σ H Q) : PT X e t' := ⟨fun pins s σ H Q I q => h.run pins s σ H Q I (i σ H Q q)⟩
theorem _root_.L2.PA.imp {X : Cx} {e : List Expr} {t t' : TA} (h : PA X e t) (i : ∀ σ H Q, t' σ H Q → t σ H Q) : PA X e t' := ⟨fun p pins s σ H Q I q => h.run p pins s σ H Q I (i σ H Q q)⟩
theorem _root_.L2.PI.imp {X : Cx} {tg it : Expr} {t t' : TI} (h : PI X tg it t) (i : ∀ σ H Q, t' σ H Q → t σ H Q) : PI X tg it t' := ⟨fun pins s σ H Q I q => h.run pins s σ H Q I (i σ H Q q)⟩
/-- two in a row, then what is asked of both -/
theorem tv2 {X : Cx} {G : Gam} {W : WX} {a b : E} {σ : St} {H F : Hp} {hd : Option Addr} {env : Env'} {Q : D → D → Prop} {R : V → V → Hp → Prop} (g : Good X.K hd F H) (en : EnvF X.K F H hd env σ)
    (h : ev G a env (fun x => ev G b env (fun y => Q x y) (RZ X.K X.mg hd F H fun c d H' => W c d σ H')) (RZ X.K X.mg hd F H fun c d H' => W c d σ H'))
    (k : ∀ x y v w F' H' T1 T2, Q x y → Ext X.K hd F H F' H' → Own F' H H' T1 → Own F' H H' T2 → (∀ a, T1 a → ¬ T2 a) → Rep X.K F' H' hd x v T1 → Rep X.K F' H' hd y w T2 → R v w H') :
    TV X G W a σ H fun v H1 => TV X G W b σ H1 fun w H2 => R v w H2 := by
  refine ⟨F, hd, env, g, en, ev_mono G a (fun x q => ?_) (fun _ z => z) h⟩
  intro v F1 H1 T1 e1 o1 r1
  refine ⟨F1, hd, env, e1.good, en.later e1.sf, ev_mono G b (fun y q => ?_) (fun _ z => RZ.later e1 z) q⟩
  intro w F2 H2 T2 e2 o2 r2
  exact k x y v w F2 H2 T1 T2 q (e1.trans e2) (o1.later g.hand e2) (Own.first e1 o2) (Own.apart o1 o2) (r1.later o1 g.hand e2) r2
end Wk
end sec_W4

section sec_W5a
set_option Elab.async false
set_option linter.all false
set_option maxRecDepth 100000
set_option maxHeartbeats 4000000
namespace Wk
open PySem PySem.Spec PyProof.Rows L2
variable [Tab]
/-! ## a tuple times one, times nothing -/
section
variable {l : Addr} {its : Array Value} {n : Nat} {dd : Option Addr} {sl : Array (Option Value)} {x : Int} {u : Tok}
theorem tm_same (c0 : (decide (x < -(2 ^ 63)) || decide (x ≥ 2 ^ 63)) = false) (c1 : (its.isEmpty || x == 1) = true) :
    Meets (Builtin.«tuple.__mul__» ⟨[.ref l, .int x u], []⟩) (fun _ R s =>
      s.heap.get? l = some { cls := .type "tuple", dict := dd, data := .seq its n, slots := sl } ∧ R (.ok (.ret (.ref l))) s) :=
  .of_wp fun prog w A R s h => by
    obtain ⟨hp, g, d, tk, os⟩ := s
    obtain ⟨hl, h⟩ := h
    have f1 := AutoSeq1.idx_int
    wp_walk using wpAny_loadPart' hl
    repeat (first
      | (refine wpAny_ite_false (decide_eq_false (by rw [c0]; decide)) ?_; wp_walk using wpAny_loadPart' hl)
      | (refine wpAny_ite_true (decide_eq_true c1) ?_; wp_walk using wpAny_loadPart' hl))
    exact ⟨_, rfl, h⟩
theorem tm_none (c0 : (decide (x < -(2 ^ 63)) || decide (x ≥ 2 ^ 63)) = false) (c1 : (its.isEmpty || x == 1) = false) (c2 : (decide (x ≤ 0) || its.isEmpty) = true) :
    Meets (Builtin.«tuple.__mul__» ⟨[.ref l, .int x u], []⟩) (fun _ R s =>
      s.heap.get? l = some { cls := .type "tuple", dict := dd, data := .seq its n, slots := sl } ∧
      R (.ok (.ret (.ref s.heap.objs.size))) { s with heap := s.heap.push { cls := .type "tuple", data := .seq #[] } }) :=
  .of_wp fun prog w A R s h => by
    obtain ⟨hp, g, d, tk, os⟩ := s
    obtain ⟨hl, h⟩ := h
    have f1 := AutoSeq1.idx_int
    wp_walk using wpAny_loadPart' hl
    repeat (first
      | (refine wpAny_ite_false (decide_eq_false (by rw [c0]; decide)) ?_; wp_walk using wpAny_loadPart' hl)
      | (refine wpAny_ite_false (decide_eq_false (by rw [c1]; decide)) ?_; wp_walk using wpAny_loadPart' hl)
      | (refine wpAny_ite_true (decide_eq_true c2) ?_; wp_walk using wpAny_loadPart' hl))
    exact ⟨_, rfl, h⟩
end
end Wk
end sec_W5a

section sec_W5b
set_option Elab.async false
set_option linter.all false
set_option maxRecDepth 100000
set_option maxHeartbeats 4000000
namespace Wk
open PySem PySem.Spec PyProof.Rows L2
variable [Tab]
section
variable {K : Frag} {hd : Option Addr} {F H F0 H0 : Hp}
/-! ## rows of data -/
theorem Reps.sub {ds : List D} {vs : List V} {T T' : ASet} (h : Reps K F H hd ds vs T) (s : ∀ a, T a → T' a) : Reps K F H hd ds vs T' := Reps.mono (Same.refl F) h (fun _ _ _ z => z) s
theorem Rep.sub {d : D} {v : V} {T T' : ASet} (h : Rep K F H hd d v T) (s : ∀ a, T a → T' a) : Rep K F H hd d v T' := Rep.mono (Same.refl F) h (fun _ _ _ z => z) s
theorem Reps.append : ∀ {ds es : List D} {vs us : List V} {T1 T2 : ASet}, Reps K F H hd ds vs T1 → Reps K F H hd es us T2 → (∀ a, T1 a → ¬ T2 a) → Reps K F H hd (ds ++ es) (vs ++ us) (fun a => T1 a ∨ T2 a)
  | [], es, vs, us, T1, T2, h, h', n => by
    cases h
    exact h'.sub fun _ t => .inr t
  | d :: ds, es, vs, us, T1, T2, h, h', n => by
    obtain ⟨v, r, A, B, rfl, s1, s2, m, p, q⟩ := h
    exact ⟨v, r ++ us, A, fun a => B a ∨ T2 a, rfl, fun a t => .inl (s1 a t), fun a t => t.elim (fun t => .inl (s2 a t)) .inr, fun a t u => u.elim (m a t) (n a (s1 a t)), p, Reps.append q h' fun a t => n a (s2 a t)⟩
theorem Reps.drop : ∀ {ds : List D} {vs : List V} {T : ASet} (n : Nat), Reps K F H hd ds vs T → Reps K F H hd (ds.drop n) (vs.drop n) T
  | [], vs, T, n, h => by
    cases h
    simp [Reps]
  | d :: ds, vs, T, 0, h => h
  | d :: ds, vs, T, n + 1, h => by
    obtain ⟨v, r, A, B, rfl, s1, s2, m, p, q⟩ := h
    exact (Reps.drop n q).sub s2
theorem Reps.take : ∀ {ds : List D} {vs : List V} {T : ASet} (n : Nat), Reps K F H hd ds vs T → Reps K F H hd (ds.take n) (vs.take n) T
  | [], vs, T, n, h => by
    cases h
    simp [Reps]
  | d :: ds, vs, T, 0, h => by simp [Reps]
  | d :: ds, vs, T, n + 1, h => by
    obtain ⟨v, r, A, B, rfl, s1, s2, m, p, q⟩ := h
    exact ⟨v, r.take n, A, B, rfl, s1, s2, m, p, Reps.take n q⟩
theorem Reps.cut {ds : List D} {vs : List V} {T : ASet} (lo hi : Option Int) (h : Reps K F H hd ds vs T) : Reps K F H hd (cutD ds lo hi) (cutV vs lo hi) T := by
  unfold cutD cutV
  rw [h.length]
  exact Reps.take _ (Reps.drop _ h)
theorem Reps.ints : ∀ (ns : List Int) {vs : List V} {T : ASet}, Reps K F H hd (ns.map D.int) vs T ↔ vs = ns.map V.int
  | [], vs, T => by simp [Reps]
  | n :: ns, vs, T => by
    constructor
    · rintro ⟨v, r, A, B, rfl, _, _, _, p, q⟩
      rw [(Reps.ints ns).mp q, (show v = V.int n from p)]
      rfl
    · rintro rfl
      exact ⟨.int n, ns.map V.int, fun _ => False, fun _ => False, rfl, fun _ t => t.elim, fun _ t => t.elim, fun _ t => t.elim, rfl, (Reps.ints ns).mpr rfl⟩
theorem Reps.ints? : ∀ {ds : List D} {ns : List Int} {vs : List V} {T : ASet}, ints? ds = some ns → Reps K F H hd ds vs T → vs = ns.map V.int
  | [], ns, vs, T, e, h => by
    cases e; exact h
  | .int i :: ds, ns, vs, T, e, h => by
    obtain ⟨v, r, A, B, rfl, _, _, _, p, q⟩ := h
    simp only [Wk.ints?, Option.map_eq_some_iff] at e
    obtain ⟨ms, e, rfl⟩ := e
    rw [Reps.ints? e q, (show v = V.int i from p)]
    rfl
  | .non :: _, _, _, _, e, _ | .bl _ :: _, _, _, _, e, _ | .str _ :: _, _, _, _, e, _ | .hand :: _, _, _, _, e, _ | .scr _ :: _, _, _, _, e, _ | .tup _ :: _, _, _, _, e, _ | .lst _ _ :: _, _, _, _, e, _ | .dik _ _ :: _, _, _, _, e, _ | .dit _ _ :: _, _, _, _, e, _ => by simp [Wk.ints?] at e
theorem Reps.bls? : ∀ {ds : List D} {ns : List Bool} {vs : List V} {T : ASet}, bls? ds = some ns → Reps K F H hd ds vs T → vs = ns.map V.bl
  | [], ns, vs, T, e, h => by
    cases e; exact h
  | .bl i :: ds, ns, vs, T, e, h => by
    obtain ⟨v, r, A, B, rfl, _, _, _, p, q⟩ := h
    simp only [Wk.bls?, Option.map_eq_some_iff] at e
    obtain ⟨ms, e, rfl⟩ := e
    rw [Reps.bls? e q, (show v = V.bl i from p)]
    rfl
  | .non :: _, _, _, _, e, _ | .int _ :: _, _, _, _, e, _ | .str _ :: _, _, _, _, e, _ | .hand :: _, _, _, _, e, _ | .scr _ :: _, _, _, _, e, _ | .tup _ :: _, _, _, _, e, _ | .lst _ _ :: _, _, _, _, e, _ | .dik _ _ :: _, _, _, _, e, _ | .dit _ _ :: _, _, _, _, e, _ => by simp [Wk.bls?] at e
/-- frozen rows -/
theorem Reps.appendF {ds es : List D} {vs us : List V} (h : Reps K F H hd ds vs fun _ => False) (h' : Reps K F H hd es us fun _ => False) : Reps K F H hd (ds ++ es) (vs ++ us) fun _ => False :=
  (Reps.append h h' fun _ t => t.elim).sub fun _ t => t.elim id id
theorem Reps.repF {ds : List D} {vs : List V} (h : Reps K F H hd ds vs fun _ => False) : ∀ n : Nat, Reps K F H hd (List.replicate n ds).flatten (List.replicate n vs).flatten fun _ => False
  | 0 => by simp [Reps]
  | n + 1 => by
    rw [List.replicate_succ, List.replicate_succ, List.flatten_cons, List.flatten_cons]
    exact Reps.appendF h (Reps.repF h n)
theorem Reps.rev : ∀ {ds : List D} {vs : List V} {T : ASet}, Reps K F H hd ds vs T → Reps K F H hd ds.reverse vs.reverse T
  | [], vs, T, h => by
    cases h; simp [Reps]
  | d :: ds, vs, T, h => by
    obtain ⟨v, r, A, B, rfl, s1, s2, m, p, q⟩ := h
    rw [List.reverse_cons, List.reverse_cons]
    have one : Reps K F H hd [d] [v] A := ⟨v, [], A, fun _ => False, rfl, fun _ t => t, fun _ t => t.elim, fun _ _ t => t, p, rfl⟩
    exact (Reps.append (Reps.rev q) one fun a t u => m a u t).sub fun a t => t.elim (s2 a) (s1 a)
theorem Reps.one {d : D} {v : V} {T : ASet} (p : Rep K F H hd d v T) : Reps K F H hd [d] [v] T := ⟨v, [], T, fun _ => False, rfl, fun _ t => t, fun _ t => t.elim, fun _ _ t => t, p, rfl⟩
theorem Reps.inv1 {d : D} {vs : List V} {T : ASet} (h : Reps K F H hd [d] vs T) : ∃ v, vs = [v] ∧ Rep K F H hd d v T := by
  obtain ⟨v, r, A, B, rfl, s1, _, _, p, q⟩ := h
  cases q
  exact ⟨v, rfl, p.sub s1⟩
theorem Reps.inv2 {d e : D} {vs : List V} {T : ASet} (h : Reps K F H hd [d, e] vs T) : ∃ v u T1 T2, vs = [v, u] ∧ (∀ a, T1 a → T a) ∧ (∀ a, T2 a → T a) ∧ (∀ a, T1 a → ¬ T2 a) ∧ Rep K F H hd d v T1 ∧ Rep K F H hd e u T2 := by
  obtain ⟨v, r, A, B, rfl, s1, s2, m, p, q⟩ := h
  obtain ⟨u, rfl, q'⟩ := q.inv1
  exact ⟨v, u, A, B, rfl, s1, s2, m, p, q'⟩
/-! ## what is wished, given -/
section
variable {Q : V → Hp → Prop} {T : ASet}
theorem R1.val {d : D} {v : V} (q : R1 K hd F0 H0 Q d) (e : Ext K hd F0 H0 F H) (r : Rep K F H hd d v fun _ => False) : Q v H := q v F H _ e Own.none r
theorem R1.lst {ds : List D} {vs : List V} (q : R1 K hd F0 H0 Q (.lst true ds)) (e : Ext K hd F0 H0 F H) (g : HandOk K hd F0 H0) (o : Own F H0 H T) (r : Reps K F H hd ds vs T) : ∀ p, H p = none → Q (.ref p) (upd H p (.lst vs)) := fun p n => by
  have x := Ext.newO (o := .lst vs) e.good n
  have o' := Own.later o g x
  refine q (.ref p) F _ (fun a => a = p ∨ T a) (e.trans x) (fun a t => ?_) ⟨p, vs, rfl, .inl rfl, upd_same, ?_⟩
  · rcases t with rfl | t
    · exact ⟨e.back (FN.of n), e.good.sub.free n, _, upd_same, rfl⟩
    · exact o' a t
  · exact (Reps.later r o g x).sub fun a t => ⟨.inr t, fun z => by
      subst z
      obtain ⟨_, _, u, q, _⟩ := o a t
      rw [n] at q; cases q⟩
theorem R1.dik {ds : List (L2.Key × D)} {vs : List (L2.Key × V)} (q : R1 K hd F0 H0 Q (.dik true [])) (e : Ext K hd F0 H0 F H) (g : HandOk K hd F0 H0) : ∀ p, H p = none → Q (.ref p) (upd H p (.dK [])) := fun p n => by
  have x := Ext.newO (o := .dK []) e.good n
  refine q (.ref p) F _ (fun a => a = p) (e.trans x) (fun a t => ?_) ⟨p, [], rfl, rfl, upd_same, rfl⟩
  subst t
  exact ⟨e.back (FN.of n), e.good.sub.free n, _, upd_same, rfl⟩
theorem R1.dit (q : R1 K hd F0 H0 Q (.dit true [])) (e : Ext K hd F0 H0 F H) (g : HandOk K hd F0 H0) : ∀ p, H p = none → Q (.ref p) (upd H p (.dT [])) := fun p n => by
  have x := Ext.newO (o := .dT []) e.good n
  refine q (.ref p) F _ (fun a => a = p) (e.trans x) (fun a t => ?_) ⟨p, [], rfl, rfl, upd_same, rfl⟩
  subst t
  exact ⟨e.back (FN.of n), e.good.sub.free n, _, upd_same, rfl⟩
theorem R1.tup {ds : List D} {vs : List V} (q : R1 K hd F0 H0 Q (.tup ds)) (e : Ext K hd F0 H0 F H) (g : HandOk K hd F0 H0) (o : Own F H0 H T) (r : Reps K F H hd ds vs T) : ∀ p, H p = none → Q (.ref p) (upd H p (.tup vs)) := fun p n => by
  have x := Ext.newF (o := .tup vs) e.good n NT.tup
  exact q (.ref p) _ _ T (e.trans x) (Own.later o g x) ⟨p, vs, rfl, upd_same, Reps.later r o g x⟩
end
end
/-! ## what stands in a heap -/
section
variable {K : Frag} {hd : Option Addr} {F H : Hp}
theorem Rep.tupH {ds : List D} {v : V} {T : ASet} (s : Same F H) (h : Rep K F H hd (.tup ds) v T) : ∃ a vs, v = .ref a ∧ H a = some (.tup vs) ∧ Reps K F H hd ds vs T := by
  obtain ⟨a, vs, e, q, r⟩ := h
  exact ⟨a, vs, e, s _ _ q, r⟩
theorem Rep.lstH {o : Bool} {ds : List D} {v : V} {T : ASet} (s : Same F H) (h : Rep K F H hd (.lst o ds) v T) : ∃ a vs, v = .ref a ∧ H a = some (.lst vs) ∧ Reps K F H hd ds vs T := by
  cases o with
  | false =>
    obtain ⟨a, vs, e, q, r⟩ := h
    exact ⟨a, vs, e, s _ _ q, r⟩
  | true =>
    obtain ⟨a, vs, e, t, q, r⟩ := h
    exact ⟨a, vs, e, q, r.sub fun _ t => t.1⟩
theorem Rep.dikH {o : Bool} {ds : List (L2.Key × D)} {v : V} {T : ASet} (s : Same F H) (h : Rep K F H hd (.dik o ds) v T) : ∃ a vs, v = .ref a ∧ H a = some (.dK vs) ∧ Repk K F H hd ds vs T := by
  cases o with
  | false =>
    obtain ⟨a, vs, e, q, r⟩ := h
    exact ⟨a, vs, e, s _ _ q, r⟩
  | true =>
    obtain ⟨a, vs, e, t, q, r⟩ := h
    exact ⟨a, vs, e, q, Repk.mono (Same.refl F) r (fun _ _ _ z => z) fun _ t => t.1⟩
theorem Rep.ditH {o : Bool} {ds : List (List L2.Key × D)} {v : V} {T : ASet} (s : Same F H) (h : Rep K F H hd (.dit o ds) v T) : ∃ a vs, v = .ref a ∧ H a = some (.dT vs) ∧ Rept K F H hd ds vs T := by
  cases o with
  | false =>
    obtain ⟨a, vs, e, q, r⟩ := h
    exact ⟨a, vs, e, s _ _ q, r⟩
  | true =>
    obtain ⟨a, vs, e, t, q, r⟩ := h
    exact ⟨a, vs, e, q, Rept.mono (Same.refl F) r (fun _ _ _ z => z) fun _ t => t.1⟩
theorem Repk.length : ∀ {ds : List (L2.Key × D)} {vs : List (L2.Key × V)} {T : ASet}, Repk K F H hd ds vs T → vs.length = ds.length
  | [], vs, T, h => by cases h; rfl
  | (k, d) :: ds, vs, T, h => by
    obtain ⟨v, r, T1, T2, rfl, _, _, _, _, q⟩ := h
    simp [Repk.length q]
end
end Wk
end sec_W5b

section sec_W5c
set_option Elab.async false
set_option linter.all false
set_option maxRecDepth 100000
set_option maxHeartbeats 4000000
namespace Wk
open PySem PySem.Spec PyProof.Rows L2
variable [Tab]
/-! ## operators -/
/-- a tuple times an int -/
def rTm (K : Frag) : R2 := fun x y H Q => ∃ l k xs, x = .ref l ∧ y = .int k ∧ SqT K H l xs ∧ k ≤ 1000 ∧ -1000 ≤ k ∧ xs.length ≤ 1000 ∧ (xs = [] ∨ k = 1 → Q (.ref l) H) ∧
  (xs ≠ [] → k ≠ 1 → ∀ p, H p = none → Q (.ref p) (upd H p (.tup (List.replicate k.toNat xs).flatten)))
section
variable {X : Cx}
theorem op_tm : OpR X (binaryOp .Mult) (rTm X.K) := by
  intro pins s σ H x y v u Q I rx ry h
  obtain ⟨l, k, xs, rfl, rfl, hT, h1, h2, hz, q1, q2⟩ := h
  by_cases hs : xs = [] ∨ k = 1
  · cases rx
    obtain ⟨t, rfl⟩ := ry
    obtain ⟨its, r, ⟨⟨cls, dd, data, sl⟩, ho, hc, n, hd⟩, _⟩ := I.tuple hT
    simp only at hc hd
    subst hc hd
    have c1 : (its.toArray.isEmpty || k == 1) = true := by
      rcases hs with e | e
      · have := r.length
        rw [e] at this
        have : its = [] := List.eq_nil_of_length_eq_zero this.symm
        rw [this]; rfl
      · rw [e]; simp
    have c0 : (decide (k < -(2 ^ 63)) || decide (k ≥ 2 ^ 63)) = false := by
      rw [Bool.or_eq_false_iff]
      exact ⟨decide_eq_false (by omega), decide_eq_false (by omega)⟩
    refine wpAny_binaryOp_repeat_ref (T := "tuple") (U := "int") (by decide) ⟨_, ho, rfl⟩ (fun s' => typeIs_int s' k t) noFill_tuple_mul PySem.F.fills_int_mul PySem.F.slot_int_rmul repeat_tuple PySem.F.slot_int_index.lookup ?_
    refine call_meets PySem.F.slot_int_rmul (typeIs_int s k t) PySem.F.entry_int_rmul (PySem.F.args_int_rmul_2 _ _) (int_rmul_tuple k t l its.toArray n dd sl) ⟨ho, rfl, ⟨_, ho, rfl⟩, ?_⟩
    exact call_meets PySem.F.slot_tuple_mul ⟨_, ho, rfl⟩ PySem.F.entry_tuple_mul (PySem.F.args_tuple_mul_2 _ _) (tm_same c0 c1) ⟨ho, .ref l, H, I, rfl, q1 hs⟩
  · have hn : xs ≠ [] := fun e => hs (.inl e)
    have hk : k ≠ 1 := fun e => hs (.inr e)
    by_cases h3 : 2 ≤ k
    · exact op_repT pins s σ H _ _ v u Q I rx ry ⟨l, k, xs, rfl, rfl, hT, hn, h3, h1, hz, q2 hn hk⟩
    · cases rx
      obtain ⟨t, rfl⟩ := ry
      obtain ⟨its, r, ⟨⟨cls, dd, data, sl⟩, ho, hc, n, hd⟩, _⟩ := I.tuple hT
      simp only at hc hd
      subst hc hd
      have he : its.toArray.isEmpty = false := by
        cases its with
        | nil =>
          have := r.length
          exact absurd (List.eq_nil_of_length_eq_zero this) hn
        | cons a b => rfl
      have c1 : (its.toArray.isEmpty || k == 1) = false := by
        rw [he]; simpa using hk
      have c2 : (decide (k ≤ 0) || its.toArray.isEmpty) = true := by
        rw [decide_eq_true (show k ≤ 0 by omega)]; rfl
      have c0 : (decide (k < -(2 ^ 63)) || decide (k ≥ 2 ^ 63)) = false := by
        rw [Bool.or_eq_false_iff]
        exact ⟨decide_eq_false (by omega), decide_eq_false (by omega)⟩
      have e0 : (List.replicate k.toNat xs).flatten = [] := by
        rw [show k.toNat = 0 by omega]; rfl
      rw [e0] at q2
      refine wpAny_binaryOp_repeat_ref (T := "tuple") (U := "int") (by decide) ⟨_, ho, rfl⟩ (fun s' => typeIs_int s' k t) noFill_tuple_mul PySem.F.fills_int_mul PySem.F.slot_int_rmul repeat_tuple PySem.F.slot_int_index.lookup ?_
      refine call_meets PySem.F.slot_int_rmul (typeIs_int s k t) PySem.F.entry_int_rmul (PySem.F.args_int_rmul_2 _ _) (int_rmul_tuple k t l its.toArray n dd sl) ⟨ho, rfl, ⟨_, ho, rfl⟩, ?_⟩
      refine call_meets PySem.F.slot_tuple_mul ⟨_, ho, rfl⟩ PySem.F.entry_tuple_mul (PySem.F.args_tuple_mul_2 _ _) (tm_none c0 c1 c2) ⟨ho, .ref _, _, ?_, rfl, q2 hn hk _ (I.hok.fresh (Nat.le_refl _))⟩
      exact I.laid (t' := s.toks) (o := .tup []) (fun b ob q => Heap.get?_push_of_some _ q) (Nat.le_refl _) ⟨Nat.zero_le _, [], .nil, IsTup.new _ _⟩
def rNo : R2 := fun _ _ _ _ => False
theorem op_no {f : Value → Value → Sem Value} : OpR X f rNo := fun _ _ _ _ _ _ _ _ _ _ _ _ h => h.elim
def rBin (K : Frag) : Operator → R2
  | .Add => fun x y H Q => rI0 (fun i j => .int (i + j)) x y H Q ∨ rCatA K x y H Q ∨ rCat x y H Q
  | .Sub => rI0 fun i j => .int (i - j)
  | .Mult => fun x y H Q => rI CMul (fun i j => .int (i * j)) x y H Q ∨ rTm K x y H Q ∨ rRep x y H Q
  | .FloorDiv => rI CDiv fun i j => .int (i / j)
  | .Mod => rI (fun _ j => 0 < j) fun i j => .int (i % j)
  | .Pow => rI CPow fun i j => .int (i ^ j.toNat)
  | .LShift => rI CPow fun i j => .int (i * 2 ^ j.toNat)
  | .RShift => rI (fun _ j => 0 ≤ j) fun i j => .int (i / 2 ^ j.toNat)
  | _ => rNo
theorem op_bin : ∀ op, OpR X (binaryOp op) (rBin X.K op)
  | .Add => op_add.or (op_catA.or op_cat)
  | .Sub => op_sub
  | .Mult => op_mul.or (op_tm.or op_rep)
  | .FloorDiv => op_fdiv
  | .Mod => op_mod
  | .Pow => op_pow
  | .LShift => op_shl | .RShift => op_shr
  | .MatMult => op_no | .Div => op_no | .BitOr => op_no | .BitXor => op_no | .BitAnd => op_no
end
section
variable {K : Frag} {hd : Option Addr} {F H F0 H0 : Hp} {Q : V → Hp → Prop} {T1 T2 : ASet}
theorem bin_ok {op : Operator} {x y : D} {v w : V} (a : binW op x y (R1 K hd F0 H0 Q)) (e : Ext K hd F0 H0 F H) (g : HandOk K hd F0 H0) (o1 : Own F H0 H T1) (o2 : Own F H0 H T2) (n : ∀ a, T1 a → ¬ T2 a)
    (r1 : Rep K F H hd x v T1) (r2 : Rep K F H hd y w T2) : rBin K op v w H Q := by
  have s := e.good.sub
  unfold binW at a
  split at a
  · exact .inl ⟨_, _, r1, r2, a.val e rfl⟩
  · exact ⟨_, _, r1, r2, a.val e rfl⟩
  · exact .inl ⟨_, _, r1, r2, a.1, a.2.val e rfl⟩
  · exact ⟨_, _, r1, r2, a.1, a.2.val e rfl⟩
  · exact ⟨_, _, r1, r2, a.1, a.2.val e rfl⟩
  · exact ⟨_, _, r1, r2, a.1, a.2.val e rfl⟩
  · exact ⟨_, _, r1, r2, a.1, a.2.val e rfl⟩
  · exact ⟨_, _, r1, r2, a.1, a.2.val e rfl⟩
  · rename_i xs ys
    obtain ⟨p, vs, rfl, hp, q1⟩ := r1.tupH s
    obtain ⟨p', us, rfl, hp', q2⟩ := r2.tupH s
    have l1 := q1.length
    have l2 := q2.length
    refine .inr (.inl ⟨p, p', vs, us, rfl, rfl, SqT.of hp, SqT.of hp', by rw [l1, l2]; exact a.1, fun z => ?_, fun _ z => ?_, fun _ _ => ?_⟩)
    · subst z
      have : xs = [] := List.eq_nil_of_length_eq_zero l1.symm
      subst this
      exact a.2 _ F H T2 e o2 r2
    · subst z
      have : ys = [] := List.eq_nil_of_length_eq_zero l2.symm
      subst this
      rw [List.append_nil] at a
      exact a.2 _ F H T1 e o1 r1
    · exact a.2.tup e g (Own.or o1 o2) (Reps.append q1 q2 n)
  · rename_i xs b' ys
    obtain ⟨p, vs, rfl, hp, q1⟩ := r1.lstH s
    obtain ⟨p', us, rfl, hp', q2⟩ := r2.lstH s
    exact .inr (.inr ⟨p, p', vs, us, rfl, rfl, hp, hp', by rw [q1.length, q2.length]; exact a.1, a.2.lst e g (Own.or o1 o2) (Reps.append q1 q2 n)⟩)
  · rename_i xs k
    obtain ⟨p, vs, rfl, hp, q1⟩ := r1.lstH s
    have hw : w = .int k := r2
    refine .inr (.inr ⟨p, k, vs, rfl, hw, hp, by have := a.1; omega, by have := a.1; omega, ?_, ?_⟩)
    · rw [q1.length, sizeLine_eq]
      have a1 : xs.length * k.toNat ≤ 1000 * 1000 := Nat.mul_le_mul a.1.2.2 (by have := a.1; omega)
      omega
    · exact a.2.lst (e.fz g o1) g Own.none (Reps.repF (q1.fz s) k.toNat)
  · rename_i xs k
    obtain ⟨p, vs, rfl, hp, q1⟩ := r1.tupH s
    have hw : w = .int k := r2
    have l1 := q1.length
    have q1' : Reps K (fz F H T1) H hd (frs xs) vs fun _ => False := q1.fz s
    refine .inr (.inl ⟨p, k, vs, rfl, hw, SqT.of hp, a.1.1, a.1.2.1, by rw [l1]; exact a.1.2.2, fun z => ?_, fun _ _ => a.2.tup (e.fz g o1) g Own.none (Reps.repF q1' k.toNat)⟩)
    have ee : (List.replicate k.toNat (frs xs)).flatten = frs xs := by
      rcases z with z | z
      · subst z
        have : xs = [] := List.eq_nil_of_length_eq_zero l1.symm
        subst this
        simp [frs]
      · subst z; simp
    rw [ee] at a
    obtain ⟨p', vs', e1, e2, e3⟩ := r1
    cases e1
    exact a.2.val (e.fz g o1) ⟨p, vs', rfl, fz_sub s _ _ e2, e3.fz s⟩
  · exact a.elim
end
end Wk
end sec_W5c

section sec_W5d
set_option Elab.async false
set_option linter.all false
set_option maxRecDepth 100000
set_option maxHeartbeats 4000000
namespace Wk
open PySem PySem.Spec PyProof.Rows L2
variable [Tab]
mutual
theorem pyD_plain : ∀ d : D, (pyD d).plain = true
  | .non => rfl | .bl _ => rfl | .int _ => rfl | .str _ => rfl | .hand => rfl | .scr _ => rfl | .dik _ _ => rfl | .dit _ _ => rfl
  | .tup xs => by simpa [pyD, PyData.plain] using pyDs_plain xs
  | .lst _ xs => by simpa [pyD, PyData.plain] using pyDs_plain xs
theorem pyDs_plain : ∀ d : List D, PyData.plainAll (pyDs d) = true
  | [] => rfl
  | d :: ds => by simp [pyDs, PyData.plainAll, pyD_plain d, pyDs_plain ds]
end
mutual
theorem pyD_depth : ∀ d : D, (pyD d).depth ≤ dep d
  | .non => by simp [pyD, PyData.depth] | .bl _ => by simp [pyD, PyData.depth] | .int _ => by simp [pyD, PyData.depth] | .str _ => by simp [pyD, PyData.depth]
  | .hand => by simp [pyD, PyData.depth] | .scr _ => by simp [pyD, PyData.depth] | .dik _ _ => by simp [pyD, PyData.depth] | .dit _ _ => by simp [pyD, PyData.depth]
  | .tup xs => by
    have := pyDs_depth xs
    simp only [pyD, PyData.depth, dep]; omega
  | .lst _ xs => by
    have := pyDs_depth xs
    simp only [pyD, PyData.depth, dep]; omega
theorem pyDs_depth : ∀ d : List D, PyData.depthAll (pyDs d) ≤ deps d
  | [] => by simp [pyDs, PyData.depthAll]
  | d :: ds => by
    have := pyD_depth d
    have := pyDs_depth ds
    simp only [pyDs, PyData.depthAll, deps]; omega
end
mutual
theorem pyD_eqv : ∀ x y : D, pl x = true → pl y = true → PyData.eqv (pyD x) (pyD y) = eqD x y := by
  intro x y hx hy
  cases x <;> cases y <;> simp_all [pl, pyD, PyData.eqv, eqD]
  · exact pyDs_eqv _ _ hx hy
  · exact pyDs_eqv _ _ hx hy
theorem pyDs_eqv : ∀ xs ys : List D, pls xs = true → pls ys = true → PyData.eqvAll (pyDs xs) (pyDs ys) = eqDs xs ys
  | [], [], _, _ => rfl
  | [], _ :: _, _, _ => rfl
  | _ :: _, [], _, _ => rfl
  | x :: xs, y :: ys, hx, hy => by
    simp only [pls, Bool.and_eq_true] at hx hy
    simp only [pyDs, PyData.eqvAll, eqDs, pyD_eqv x y hx.1 hy.1, pyDs_eqv xs ys hx.2 hy.2]
end
end Wk
end sec_W5d

section sec_W5e
set_option Elab.async false
set_option linter.all false
set_option maxRecDepth 100000
set_option maxHeartbeats 4000000
namespace Wk
open PySem PySem.Spec PyProof.Rows L2
variable [Tab]
/-! ## comparisons -/
section
variable {K : Frag} {hd : Option Addr} {F H : Hp}
mutual
theorem Rep.dp (s : Same F H) : ∀ {d : D} {v : V} {T : ASet}, pl d = true → Rep K F H hd d v T → Dp K H v (pyD d)
  | .non, _, _, _, h => by rw [(show _ = V.non from h)]; exact .non
  | .bl b, _, _, _, h => by rw [(show _ = V.bl b from h)]; exact .bl b
  | .int i, _, _, _, h => by rw [(show _ = V.int i from h)]; exact .int i
  | .str x, _, _, _, h => by rw [(show _ = V.str x from h)]; exact .str x
  | .tup xs, v, T, p, h => by
    obtain ⟨a, vs, rfl, q, r⟩ := h.tupH s
    exact .tup (SqT.of q) (Reps.dp s (by simpa [pl] using p) r)
  | .lst o xs, v, T, p, h => by
    obtain ⟨a, vs, rfl, q, r⟩ := h.lstH s
    exact .lst (SqL.of q) (Reps.dp s (by simpa [pl] using p) r)
  | .hand, _, _, p, _ => by simp [pl] at p
  | .scr _, _, _, p, _ => by simp [pl] at p
  | .dik _ _, _, _, p, _ => by simp [pl] at p
  | .dit _ _, _, _, p, _ => by simp [pl] at p
theorem Reps.dp (s : Same F H) : ∀ {ds : List D} {vs : List V} {T : ASet}, pls ds = true → Reps K F H hd ds vs T → DpAll K H vs (pyDs ds)
  | [], _, _, _, h => by cases h; exact .nil
  | d :: ds, vs, T, p, h => by
    obtain ⟨v, r, A, B, rfl, _, _, _, p1, q⟩ := h
    simp only [pls, Bool.and_eq_true] at p
    exact .cons (Rep.dp s p.1 p1) (Reps.dp s p.2 q)
end
end
def rEqP (K : Frag) (n : Bool) : R2 := fun x y H Q => ∃ d e, Dp K H x d ∧ Dp K H y e ∧ d.plain = true ∧ e.plain = true ∧ min d.depth e.depth ≤ 60 ∧ Q (.bl (if n then !PyData.eqv d e else PyData.eqv d e)) H
def rInP (K : Frag) (n : Bool) : R2 := fun x y H Q => ∃ d xs, Dp K H x d ∧ (Dp K H y (.list xs) ∨ Dp K H y (.tuple xs)) ∧ d.plain = true ∧ PyData.plainAll xs = true ∧ d.depth ≤ 60 ∧
  Q (.bl (if n then !xs.any fun y => PyData.eqv y d else xs.any fun y => PyData.eqv y d)) H
def rIsP (n : Bool) : R2 := fun x y H Q => (y = .non ∧ Q (.bl (if n then !decide (x = .non) else decide (x = .non))) H) ∨ ∃ a b, x = .bl a ∧ y = .bl b ∧ Q (.bl (if n then !decide (a = b) else decide (a = b))) H
section
variable {X : Cx}
theorem op_eqP (hu : X.A.units + 100 < cLine) : OpR X (compareOp .Eq) (rEqP X.K false) := by
  intro pins s σ H x y v u Q I rx ry ⟨d, e, hd, he, pd, pe, l, q⟩
  obtain ⟨as, r1⟩ := Dp.reads I d x v hd rx
  obtain ⟨bs, r2⟩ := Dp.reads I e y u he ry
  exact PySem.SeqAt.eq_plain r1 r2 pd pe (by omega) ⟨.bl _, H, I, rfl, q⟩
theorem op_neP (hu : X.A.units + 100 < cLine) : OpR X (compareOp .NotEq) (rEqP X.K true) := by
  intro pins s σ H x y v u Q I rx ry ⟨d, e, hd, he, pd, pe, l, q⟩
  obtain ⟨as, r1⟩ := Dp.reads I d x v hd rx
  obtain ⟨bs, r2⟩ := Dp.reads I e y u he ry
  exact PySem.SeqAt.ne_plain r1 r2 pd pe (by omega) ⟨.bl _, H, I, rfl, q⟩
theorem op_inP (hu : X.A.units + 100 < cLine) : OpR X (compareOp .In) (rInP X.K false) := by
  intro pins s σ H x y v u Q I rx ry ⟨d, xs, hd, he, pd, pe, l, q⟩
  obtain ⟨as, r1⟩ := Dp.reads I d x v hd rx
  rcases he with he | he
  · obtain ⟨bs, r2⟩ := Dp.reads I _ y u he ry
    exact PySem.SeqAt.in_list_data r2 r1 pe pd (by omega) ⟨.bl _, H, I, rfl, q⟩
  · obtain ⟨bs, r2⟩ := Dp.reads I _ y u he ry
    exact PySem.SeqAt.in_tuple_data r2 r1 pe pd (by omega) ⟨.bl _, H, I, rfl, q⟩
theorem op_niP (hu : X.A.units + 100 < cLine) : OpR X (compareOp .NotIn) (rInP X.K true) := by
  intro pins s σ H x y v u Q I rx ry ⟨d, xs, hd, he, pd, pe, l, q⟩
  obtain ⟨as, r1⟩ := Dp.reads I d x v hd rx
  rcases he with he | he
  · obtain ⟨bs, r2⟩ := Dp.reads I _ y u he ry
    exact PySem.SeqAt.notIn_list_data r2 r1 pe pd (by omega) ⟨.bl _, H, I, rfl, q⟩
  · obtain ⟨bs, r2⟩ := Dp.reads I _ y u he ry
    exact PySem.SeqAt.notIn_tuple_data r2 r1 pe pd (by omega) ⟨.bl _, H, I, rfl, q⟩
theorem op_isP : OpR X (compareOp .Is) (rIsP false) := by
  intro pins s σ H x y v u Q I rx ry h
  rcases h with ⟨e, q⟩ | ⟨a, b, e1, e2, q⟩
  · exact op_isN pins s σ H x y v u Q I rx ry ⟨e, q⟩
  · exact op_isBl pins s σ H x y v u Q I rx ry ⟨a, b, e1, e2, q⟩
theorem op_ntP : OpR X (compareOp .IsNot) (rIsP true) := by
  intro pins s σ H x y v u Q I rx ry h
  rcases h with ⟨e, q⟩ | ⟨a, b, e1, e2, q⟩
  · exact op_notN pins s σ H x y v u Q I rx ry ⟨e, q⟩
  · exact op_notBl pins s σ H x y v u Q I rx ry ⟨a, b, e1, e2, q⟩
/-- is a key there -/
def rInK (n : Bool) : R2 := fun x y H Q => ∃ a o, y = .ref a ∧ DGet H a x o ∧ Q (.bl (if n then !o.isSome else o.isSome)) H
theorem op_inK (hu : X.A.units + 100 < cLine) : OpR X (compareOp .In) (rInK false) := by
  intro pins s σ H x y v u Q I rx ry ⟨a, o, e, g, q⟩
  subst e
  obtain rfl : u = Value.ref a := ry
  exact d_in (by omega) I g rx fun s' J => ⟨.bl o.isSome, H, J, rfl, q⟩
theorem op_niK (hu : X.A.units + 100 < cLine) : OpR X (compareOp .NotIn) (rInK true) := by
  intro pins s σ H x y v u Q I rx ry ⟨a, o, e, g, q⟩
  subst e
  obtain rfl : u = Value.ref a := ry
  exact d_notIn (by omega) I g rx fun s' J => ⟨.bl (!o.isSome), H, J, rfl, q⟩
def rCmp (K : Frag) : CmpOp → R2
  | .Lt => rI0 fun i j => .bl (decide (i < j))
  | .LtE => rI0 fun i j => .bl (decide (i ≤ j))
  | .Gt => rI0 fun i j => .bl (decide (j < i))
  | .GtE => rI0 fun i j => .bl (decide (j ≤ i))
  | .Eq => rEqP K false
  | .NotEq => rEqP K true
  | .In => fun x y H Q => rInP K false x y H Q ∨ rInK false x y H Q
  | .NotIn => fun x y H Q => rInP K true x y H Q ∨ rInK true x y H Q
  | .Is => rIsP false
  | .IsNot => rIsP true
theorem op_cmp (hu : X.A.units + 100 < cLine) : ∀ op, OpR X (compareOp op) (rCmp X.K op)
  | .Lt => op_lt | .LtE => op_le | .Gt => op_gt | .GtE => op_ge
  | .Eq => op_eqP hu | .NotEq => op_neP hu | .In => (op_inP hu).or (op_inK hu) | .NotIn => (op_niP hu).or (op_niK hu) | .Is => op_isP | .IsNot => op_ntP
end
theorem keyD_rep {K : Frag} {hd : Option Addr} {F H : Hp} {y : D} {w : V} {T : ASet} {k : L2.Key} (h : keyD y = some k) (r : Rep K F H hd y w T) : w = kV k := by
  cases y with
  | int i => cases h; exact r
  | str x => cases h; exact r
  | _ => cases h
theorem Repk.atK {K : Frag} {hd : Option Addr} {F H : Hp} : ∀ {kvs : List (L2.Key × D)} {us : List (L2.Key × V)} {T : ASet} (k : L2.Key), Repk K F H hd kvs us T → (Wk.atK kvs k = none ∧ valV us k = none) ∨ ∃ d v, Wk.atK kvs k = some d ∧ valV us k = some v ∧ Rep K F H hd d v T
  | [], us, T, k, h => by cases h; exact .inl ⟨rfl, rfl⟩
  | (q, d) :: ds, us, T, k, h => by
    obtain ⟨v, r, T1, T2, rfl, s1, s2, n, p1, p2⟩ := h
    by_cases e : q = k
    · exact .inr ⟨d, v, by simp [Wk.atK, e], valV_pos e, Rep.mono (Same.refl F) p1 (fun _ _ _ z => z) s1⟩
    · rcases Repk.atK k p2 with ⟨h1, h2⟩ | ⟨d', v', h1, h2, h3⟩
      · exact .inl ⟨by unfold Wk.atK at h1 ⊢; simpa [List.find?_cons, e] using h1, by rw [valV_neg e]; exact h2⟩
      · exact .inr ⟨d', v', by unfold Wk.atK at h1 ⊢; simpa [List.find?_cons, e] using h1, by rw [valV_neg e]; exact h2, Rep.mono (Same.refl F) h3 (fun _ _ _ z => z) s2⟩
theorem dik_get {K : Frag} {hd : Option Addr} {F H : Hp} {o : Bool} {kvs : List (L2.Key × D)} {v : V} {T : ASet} (s : Same F H) (k : L2.Key) (r : Rep K F H hd (.dik o kvs) v T) : ∃ a, v = .ref a ∧ ((Wk.atK kvs k = none ∧ DGet H a (kV k) none) ∨ ∃ d w, Wk.atK kvs k = some d ∧ DGet H a (kV k) (some w) ∧ Rep K F H hd d w T) := by
  obtain ⟨a, us, rfl, h1, h2⟩ := r.dikH s
  refine ⟨a, rfl, ?_⟩
  have g := DGet.k (k := k) h1
  rcases Repk.atK k h2 with ⟨e1, e2⟩ | ⟨d, w, e1, e2, e3⟩
  · rw [e2] at g
    exact .inl ⟨e1, g⟩
  · rw [e2] at g
    exact .inr ⟨d, w, e1, g, e3⟩
theorem isNon_iff {K : Frag} {hd : Option Addr} {F H : Hp} {d : D} {v : V} {T : ASet} (h : Rep K F H hd d v T) : isNon d = decide (v = .non) := by
  cases d with
  | non => rw [(show v = V.non from h)]; rfl
  | bl b => rw [(show v = V.bl b from h)]; rfl
  | int b => rw [(show v = V.int b from h)]; rfl
  | str b => rw [(show v = V.str b from h)]; rfl
  | hand => obtain ⟨a, _, rfl⟩ := h; rfl
  | scr ns => obtain ⟨a, rfl, _⟩ := h; rfl
  | tup xs => obtain ⟨a, vs, rfl, _⟩ := h; rfl
  | lst o xs => cases o <;> (obtain ⟨a, vs, rfl, _⟩ := h; rfl)
  | dik o xs => cases o <;> (obtain ⟨a, vs, rfl, _⟩ := h; rfl)
  | dit o xs => cases o <;> (obtain ⟨a, vs, rfl, _⟩ := h; rfl)
theorem any_py (x : D) (hx : pl x = true) : ∀ ys : List D, pls ys = true → (pyDs ys).any (fun y => PyData.eqv y (pyD x)) = ys.any fun y => eqD y x
  | [], _ => rfl
  | y :: ys, h => by
    simp only [pls, Bool.and_eq_true] at h
    simp only [pyDs, List.any_cons, pyD_eqv y x h.1 hx, any_py x hx ys h.2]
section
variable {K : Frag} {hd : Option Addr} {F H F0 H0 : Hp} {Q : V → Hp → Prop} {T1 T2 : ASet}
theorem cmp_ok {op : CmpOp} {x y : D} {v w : V} (a : cmpW op x y (R1 K hd F0 H0 Q)) (e : Ext K hd F0 H0 F H) (r1 : Rep K F H hd x v T1) (r2 : Rep K F H hd y w T2) : rCmp K op v w H Q := by
  have s := e.good.sub
  have hx := pyD_depth x
  have hy := pyD_depth y
  cases op with
  | Lt => cases x <;> cases y <;> first | exact (show False from a).elim | exact ⟨_, _, r1, r2, R1.val a e rfl⟩
  | LtE => cases x <;> cases y <;> first | exact (show False from a).elim | exact ⟨_, _, r1, r2, R1.val a e rfl⟩
  | Gt => cases x <;> cases y <;> first | exact (show False from a).elim | exact ⟨_, _, r1, r2, R1.val a e rfl⟩
  | GtE => cases x <;> cases y <;> first | exact (show False from a).elim | exact ⟨_, _, r1, r2, R1.val a e rfl⟩
  | Eq =>
    obtain ⟨⟨p1, p2, p3⟩, q⟩ : eqOk x y ∧ R1 K hd F0 H0 Q (.bl (eqD x y)) := a
    exact ⟨_, _, r1.dp s p1, r2.dp s p2, pyD_plain _, pyD_plain _, by omega, by rw [pyD_eqv x y p1 p2]; exact q.val e rfl⟩
  | NotEq =>
    obtain ⟨⟨p1, p2, p3⟩, q⟩ : eqOk x y ∧ R1 K hd F0 H0 Q (.bl (!eqD x y)) := a
    exact ⟨_, _, r1.dp s p1, r2.dp s p2, pyD_plain _, pyD_plain _, by omega, by rw [pyD_eqv x y p1 p2]; exact q.val e rfl⟩
  | Is =>
    cases y with
    | non =>
      have a : R1 K hd F0 H0 Q (.bl (isNon x)) := by cases x <;> exact a
      exact .inl ⟨r2, by rw [if_neg Bool.false_ne_true, ← isNon_iff r1]; exact a.val e rfl⟩
    | bl b => cases x <;> first | exact (show False from a).elim | exact .inr ⟨_, _, r1, r2, R1.val a e rfl⟩
    | _ => cases x <;> exact (show False from a).elim
  | IsNot =>
    cases y with
    | non =>
      have a : R1 K hd F0 H0 Q (.bl (!isNon x)) := by cases x <;> exact a
      exact .inl ⟨r2, by rw [if_pos rfl, ← isNon_iff r1]; exact a.val e rfl⟩
    | bl b => cases x <;> first | exact (show False from a).elim | exact .inr ⟨_, _, r1, r2, R1.val a e rfl⟩
    | _ => cases x <;> exact (show False from a).elim
  | In =>
    cases y with
    | tup ys =>
      obtain ⟨⟨p1, p2, p3⟩, q⟩ : (pl x = true ∧ pls ys = true ∧ dep x ≤ 60) ∧ R1 K hd F0 H0 Q (.bl (ys.any fun y => eqD y x)) := a
      exact .inl ⟨_, _, r1.dp s p1, .inr (Rep.dp (d := .tup ys) s (by simpa [pl] using p2) r2), pyD_plain _, pyDs_plain _, by omega, by rw [any_py x p1 _ p2]; exact q.val e rfl⟩
    | lst o ys =>
      obtain ⟨⟨p1, p2, p3⟩, q⟩ : (pl x = true ∧ pls ys = true ∧ dep x ≤ 60) ∧ R1 K hd F0 H0 Q (.bl (ys.any fun y => eqD y x)) := a
      exact .inl ⟨_, _, r1.dp s p1, .inl (Rep.dp (d := .lst o ys) s (by simpa [pl] using p2) r2), pyD_plain _, pyDs_plain _, by omega, by rw [any_py x p1 _ p2]; exact q.val e rfl⟩
    | dik o kvs =>
      obtain ⟨k, hk, q⟩ : ∃ k, keyD x = some k ∧ R1 K hd F0 H0 Q (.bl ((Wk.atK kvs k).isSome)) := a
      obtain ⟨p, rfl, g⟩ := dik_get s k r2
      have ex := keyD_rep hk r1
      subst ex
      rcases g with ⟨e1, g⟩ | ⟨d, u, e1, g, _⟩
      · exact .inr ⟨p, _, rfl, g, by rw [e1] at q; exact q.val e rfl⟩
      · exact .inr ⟨p, _, rfl, g, by rw [e1] at q; exact q.val e rfl⟩
    | _ => exact (show False from a).elim
  | NotIn =>
    cases y with
    | tup ys =>
      obtain ⟨⟨p1, p2, p3⟩, q⟩ : (pl x = true ∧ pls ys = true ∧ dep x ≤ 60) ∧ R1 K hd F0 H0 Q (.bl (!ys.any fun y => eqD y x)) := a
      exact .inl ⟨_, _, r1.dp s p1, .inr (Rep.dp (d := .tup ys) s (by simpa [pl] using p2) r2), pyD_plain _, pyDs_plain _, by omega, by rw [any_py x p1 _ p2]; exact q.val e rfl⟩
    | lst o ys =>
      obtain ⟨⟨p1, p2, p3⟩, q⟩ : (pl x = true ∧ pls ys = true ∧ dep x ≤ 60) ∧ R1 K hd F0 H0 Q (.bl (!ys.any fun y => eqD y x)) := a
      exact .inl ⟨_, _, r1.dp s p1, .inl (Rep.dp (d := .lst o ys) s (by simpa [pl] using p2) r2), pyD_plain _, pyDs_plain _, by omega, by rw [any_py x p1 _ p2]; exact q.val e rfl⟩
    | dik o kvs =>
      obtain ⟨k, hk, q⟩ : ∃ k, keyD x = some k ∧ R1 K hd F0 H0 Q (.bl (!(Wk.atK kvs k).isSome)) := a
      obtain ⟨p, rfl, g⟩ := dik_get s k r2
      have ex := keyD_rep hk r1
      subst ex
      rcases g with ⟨e1, g⟩ | ⟨d, u, e1, g, _⟩
      · exact .inr ⟨p, _, rfl, g, by rw [e1] at q; exact q.val e rfl⟩
      · exact .inr ⟨p, _, rfl, g, by rw [e1] at q; exact q.val e rfl⟩
    | _ => exact (show False from a).elim
end
end Wk
end sec_W5e

section sec_W5f
set_option Elab.async false
set_option linter.all false
set_option maxRecDepth 100000
set_option maxHeartbeats 4000000
namespace Wk
open PySem PySem.Spec PyProof.Rows L2
variable [Tab]
/-! ## a tuple backwards -/
theorem fm_congr {α β : Type} {f g : α → Option β} : ∀ {l : List α}, (∀ m ∈ l, f m = g m) → l.filterMap f = l.filterMap g
  | [], _ => rfl
  | a :: l, h => by
    rw [List.filterMap_cons, List.filterMap_cons, h a List.mem_cons_self, fm_congr fun m hm => h m (List.mem_cons_of_mem _ hm)]
theorem back_pick (xs : Array Value) : ((List.range xs.size).filterMap fun (m : Nat) => xs[(((xs.size : Int) - 1) + (m : Int) * (-1)).toNat]?).toArray = xs.toList.reverse.toArray := by
  congr 1
  have e : (List.range xs.size).filterMap (fun (m : Nat) => xs[(((xs.size : Int) - 1) + (m : Int) * (-1)).toNat]?) = (List.range xs.size).filterMap ((fun i => xs[i]?) ∘ fun k => xs.size - 1 - k) := by
    refine fm_congr fun m hm => ?_
    have : m < xs.size := List.mem_range.mp hm
    show xs[_]? = xs[xs.size - 1 - m]?
    congr 1
    omega
  rw [e, ← List.filterMap_map, PySem.W.krv_range, List.filterMap_reverse, PySem.W.krv_all]
theorem back_places (n : Nat) : Builtin.Slice.slicePlaces ((n : Int) - 1) (-1) (-1) = n := by
  unfold Builtin.Slice.slicePlaces
  rw [if_neg (by decide)]
  split
  · rename_i h
    have : -(-1 : Int) = 1 := rfl
    rw [this, Int.ediv_one]
    omega
  · omega
section
variable {prog : Program} {w : World} {A : Around} {E : Value → Shared → Prop} {s : Shared}
theorem getItem_tuple_back {t sl : Addr} {its : Array Value} {vl vu vs : Value} {Q : Value → Shared → Prop} (ht : IsTup s.heap t its) (hs : s.heap.IsSliceOf sl vl vu vs) (pl : IsPart vl none) (pu : IsPart vu none) (ps : IsPart vs (some (-1)))
    (hz : its.size ≤ sizeLine) (h : Q (.ref s.heap.objs.size) { s with heap := s.heap.push { cls := .type "tuple", data := .seq its.toList.reverse.toArray } }) :
    wpAny (model prog w) A (getItem (.ref t) (.ref sl)) Q E s := by
  obtain ⟨os, hos, hcs, hds⟩ := id hs
  have hTs : s.TypeIs (.ref sl) "slice" := ⟨os, hos, hcs⟩
  unfold getItem
  try with_reducible refine wpAny_holding ?_
  first | refine wpAny_bind (wpAny_pure ?_) | skip
  refine wpAny_bind (wpAny_sequenceKey ht.typeIs (by decide) ?_)
  refine wpAny_bind (wpAny_callSpecial?_slot (name := Str.ofString "__getitem__") ht.typeIs PyProof.Rows.slot_tuple_getitem (wpAny_call_entry PyProof.Rows.slot_tuple_getitem ht.typeIs entry_tuple_getitem ?_ (args_tuple_getitem _ _)))
  show wpAny _ _ (Builtin.Tuple.tupleItemsOf (.ref t) >>= _) _ _ s
  refine wpAny_bind (tupleItemsOf_ ht ?_)
  refine wpAny_bind (wpAny_typeOf hTs ?_)
  rw [if_pos (by decide)]
  cases pl
  cases pu
  cases ps
  have ap : ∀ (A' : Around) (E' : Value → Shared → Prop) (R : Int × Int × Nat → Shared → Prop), R ((its.size : Int) - 1, -1, its.size) s → wpAny (model prog w) A' (Builtin.Slice.sliceApplied (.ref sl) (pure (its.size : Int))) R E' s := by
    intro A' E' R hR
    unfold Builtin.Slice.sliceApplied Builtin.Slice.sliceFields
    refine wpAny_bind (wpAny_bind (wpAny_field hos hds (x := .none) rfl (wpAny_bind (wpAny_field hos hds (x := .none) rfl (wpAny_bind (wpAny_field hos hds rfl (wpAny_pure ?_)))))))
    refine wpAny_bind (slicePart_int ?_)
    show wpAny _ _ (if ((-1 : Int) == 0) = true then _ else _) _ _ s
    rw [if_neg (by decide)]
    refine wpAny_bind (slicePart_none (wpAny_bind (slicePart_none (wpAny_bind (wpAny_pure ?_)))))
    show wpAny _ _ (pure ((its.size : Int) - 1, (-1 : Int), Builtin.Slice.slicePlaces ((its.size : Int) - 1) (-1) (-1))) _ _ s
    rw [back_places]
    exact wpAny_pure hR
  refine wpAny_bind (ap _ _ _ ?_)
  have hno : ¬ ((((its.size : Int) - 1) == 0 && (-1 : Int) == 1 && its.size == its.size) = true) := by
    intro q
    simp at q
  show wpAny _ _ (if (((its.size : Int) - 1) == 0 && (-1 : Int) == 1 && its.size == its.size) = true then _ else _) _ _ s
  rw [if_neg hno, back_pick]
  have hk : sizeOk (.seq its.toList.reverse.toArray) := by
    show its.toList.reverse.toArray.size ≤ sizeLine
    simpa using hz
  have hp := fun (x : Value) (q : Q x { s with heap := s.heap.push { cls := .type "tuple", data := .seq its.toList.reverse.toArray } }) => wpAny_pure (M := model prog w) (A := A) (E := E) q
  first
    | exact wpAny_bind (m := Builtin.Tuple.tupleExact _) (wpAny_newObj_type (wpAny_pure ⟨_, rfl, hp _ h⟩) hk)
    | exact wpAny_bind (m := Builtin.Tuple.tupleExact _) (wpAny_newObj_type (wpAny_bind (wpAny_pure (wpAny_pure ⟨_, rfl, hp _ h⟩))) hk)
end
/-- a list, a tuple backwards -/
def tRev (K : Frag) (te : TE) : TE := fun σ H Q => te σ H fun x H1 => ∃ a xs, x = .ref a ∧ ((SqL K H1 a xs ∧ ∀ p, H1 p = none → Q (.ref p) (upd H1 p (.lst xs.reverse))) ∨ (SqT K H1 a xs ∧ ∀ p, H1 p = none → Q (.ref p) (upd H1 p (.tup xs.reverse))))
theorem pe_rev {X : Cx} {e : Expr} {te : TE} {k : Nat} {p1 p2 p3 pos : Pos} (he : PE X e te) :
    PE X (.Subscript e (.Slice none none (some (.UnaryOp .USub (.Constant (.int 1) k p1) p2)) p3) pos) (tRev X.K te) := by
  refine ⟨fun pins s σ H Q I h => Subscript_ (thn (he.run pins s σ H _ I h) fun v s1 ⟨x, H1, I1, r1, q1⟩ => ?_)⟩
  obtain ⟨a, xs, rfl, q⟩ := q1
  cases r1
  have hst : PO X (some (.UnaryOp .USub (.Constant (.int 1) k p1) p2)) (tPart (tUn (rU fun i => .int (-i)) (tC (.int 1)))) := po_some (pe_un un_neg pe_int)
  refine wpAny_Slice (thn (po_none.run pins s1 σ H1 (fun o H2 => o = none ∧ H2 = H1) I1 ⟨rfl, rfl⟩) fun vl s2 ⟨l, H2, I2, pl, el, e2⟩ => ?_)
  subst el e2
  refine thn (po_none.run pins s2 σ H2 (fun o H3 => o = none ∧ H3 = H2) I2 ⟨rfl, rfl⟩) fun vu s3 ⟨u, H3, I3, pu, eu, e3⟩ => ?_
  subst eu e3
  refine thn (hst.run pins s3 σ H3 (fun o H4 => o = some (-1) ∧ H4 = H3) I3 ⟨1, rfl, -1, rfl, rfl, rfl⟩) fun vs s4 ⟨o, H4, I4, ps, eo, e4⟩ => ?_
  subst eo e4
  have I5 : Inv X pins σ H4 { s4 with heap := s4.heap.push { cls := .type "slice", data := .fields #[vl, vu, vs] } } := I4.kept (t' := s4.toks) fun b ob q => Heap.get?_push_of_some _ q
  show wpAny (model X.prog X.w) X.A (subscriptTail e (.Slice none none (some (.UnaryOp .USub (.Constant (.int 1) k p1) p2)) p3) (.ref a) (.ref s4.heap.objs.size)) (EP X pins σ Q) X.xe _
  rcases q with ⟨hx, q⟩ | ⟨hx, q⟩
  · obtain ⟨its, r, ht, hz⟩ := I5.list hx
    have hlen := r.length
    refine tail_any (ops := [.ref a, .ref s4.heap.objs.size]) ht.isList.typeIs (PySem.slot_list_getitem.lookup) ?_ (by with_unfolding_all rfl)
    refine wpAny_getItem_list_slice ht.isList (Heap.IsSliceOf.new _ vl vu vs) pl pu ps (by decide) ?_ (by rw [List.size_toArray]; omega)
    rw [PySem.W.krv_pick]
    exact ⟨.ref _, _, I5.laid (t' := s4.toks) (o := .lst xs.reverse) (fun b ob q => Heap.get?_push_of_some _ q) (Nat.le_refl _) ⟨by simpa using hz, _, 0, r.reverse, Heap.get?_push_size _ rfl⟩, rfl, q _ (I5.hok.fresh (Nat.le_refl _))⟩
  · obtain ⟨its, r, ht, hz⟩ := I5.tuple hx
    have hlen := r.length
    refine tail_any (ops := [.ref a, .ref s4.heap.objs.size]) ht.typeIs (PyProof.Rows.slot_tuple_getitem.lookup) ?_ (by with_unfolding_all rfl)
    refine getItem_tuple_back ht (Heap.IsSliceOf.new _ vl vu vs) pl pu ps (by rw [List.size_toArray]; omega) ?_
    exact ⟨.ref _, _, I5.laid (t' := s4.toks) (o := .tup xs.reverse) (fun b ob q => Heap.get?_push_of_some _ q) (Nat.le_refl _) ⟨by simpa using hz, _, r.reverse, IsTup.new _ _⟩, rfl, q _ (I5.hok.fresh (Nat.le_refl _))⟩
/-! ## items, slices -/
section
variable {K : Frag} {hd : Option Addr} {F H F0 H0 : Hp} {Q : V → Hp → Prop} {T1 T2 : ASet}
theorem atI_rep {ds : List D} {vs : List V} {T : ASet} {i : Int} {d : D} (r : Reps K F H hd ds vs T) (h : atI ds i = some d) : ∃ v, atI vs i = some v ∧ Rep K F H hd d v T := by
  unfold atI at h ⊢
  rw [r.length]
  cases q : ixN ds.length i with
  | none => rw [q] at h; cases h
  | some j =>
    rw [q] at h
    exact r.get h
/-- an item of a list, a tuple, a dict -/
def rIxA (K : Frag) : R2 := fun x y H Q => rIx K x y H Q ∨ ∃ a v, x = .ref a ∧ DGet H a y (some v) ∧ Q v H
theorem ix_any {X : Cx} (hu : X.A.units + 100 < cLine) : IxR X (rIxA X.K) := ix_seq.or (r' := fun x y H Q => ∃ a v, x = .ref a ∧ DGet H a y (some v) ∧ Q v H) (by
  intro value slice pins s σ H x y v u Q I rx ry ⟨a, w, e, g, q⟩ hs
  subst e
  obtain rfl : v = Value.ref a := rx
  exact tail_any (dict_typeIs I g) PySem.F.slot_dict_getitem.lookup (d_getItem (by omega) I g ry fun z s' J rz => ⟨w, H, J, rz, q⟩) hs)
theorem idx_ok {x y : D} {v w : V} (a : idxW x y (R1 K hd F0 H0 Q)) (e : Ext K hd F0 H0 F H) (o1 : Own F H0 H T1) (r1 : Rep K F H hd x v T1) (r2 : Rep K F H hd y w T2) : rIxA K v w H Q := by
  have s := e.good.sub
  unfold idxW at a
  split at a
  · obtain ⟨d, h, q⟩ := a
    obtain ⟨p, vs, rfl, hp, q1⟩ := r1.tupH s
    obtain ⟨v', e1, e2⟩ := atI_rep q1 h
    exact .inl (.inr (.inl ⟨p, vs, _, v', rfl, r2, SqT.of hp, e1, q _ _ _ _ e o1 e2⟩))
  · obtain ⟨d, h, q⟩ := a
    obtain ⟨p, vs, rfl, hp, q1⟩ := r1.lstH s
    obtain ⟨v', e1, e2⟩ := atI_rep q1 h
    exact .inl (.inl ⟨p, vs, _, v', rfl, r2, SqL.of hp, e1, q _ _ _ _ e o1 e2⟩)
  · obtain ⟨k, d, hk, hd', q⟩ := a
    obtain ⟨p, rfl, g⟩ := dik_get s k r1
    have ew := keyD_rep hk r2
    subst ew
    rcases g with ⟨e1, g⟩ | ⟨d', u, e1, g, ru⟩
    · rw [hd'] at e1; cases e1
    · rw [hd'] at e1; cases e1
      exact .inr ⟨p, u, rfl, g, q _ _ _ _ e o1 ru⟩
  · exact a.elim
def rSl (K : Frag) : V → Option Int → Option Int → Hp → VK → Prop := fun x lo hi H Q => rSlA K x lo hi H Q ∨ rSlL K x lo hi H Q
theorem sl_any {X : Cx} : SlR X (rSl X.K) := sl_tupA.or sl_list
theorem cut_ints (ns : List Int) (lo hi : Option Int) : cutV (ns.map V.int) lo hi = (cutD ns lo hi).map V.int := by
  unfold cutV cutD
  rw [List.length_map, List.map_take, List.map_drop]
theorem sl_ok {x : D} {v : V} {lo hi : Option Int} (a : slW x lo hi (R1 K hd F0 H0 Q)) (e : Ext K hd F0 H0 F H) (g : HandOk K hd F0 H0) (o1 : Own F H0 H T1) (r1 : Rep K F H hd x v T1) : rSl K v lo hi H Q := by
  have s := e.good.sub
  cases x with
  | tup xs =>
    have a : R1 K hd F0 H0 Q (.tup (cutD xs lo hi)) := a
    obtain ⟨p, vs, rfl, hp, q1⟩ := r1.tupH s
    have l := q1.length
    refine .inl ⟨p, vs, rfl, SqT.of hp, fun z => ?_, fun _ => a.tup e g o1 (q1.cut lo hi)⟩
    have ex : cutD xs lo hi = xs := by
      unfold cutD
      rw [← l, z.1, z.2, List.drop_zero, Nat.sub_zero, l, List.take_length]
    rw [ex] at a
    exact a _ _ _ _ e o1 r1
  | lst o xs =>
    have a : R1 K hd F0 H0 Q (.lst true (cutD xs lo hi)) := a
    obtain ⟨p, vs, rfl, hp, q1⟩ := r1.lstH s
    exact .inr ⟨p, vs, rfl, SqL.of hp, a.lst e g o1 (q1.cut lo hi)⟩
  | scr ns =>
    have a : R1 K hd F0 H0 Q (.lst true ((cutD ns lo hi).map .int)) := a
    obtain ⟨p, rfl, hp⟩ := r1
    refine .inr ⟨p, _, rfl, Same.seq s hp, ?_⟩
    rw [cut_ints]
    exact a.lst e g Own.none ((Reps.ints _).mpr rfl)
  | _ => exact (show False from a).elim
theorem rev_ok {x : D} {v : V} (a : revW x (R1 K hd F0 H0 Q)) (e : Ext K hd F0 H0 F H) (g : HandOk K hd F0 H0) (o1 : Own F H0 H T1) (r1 : Rep K F H hd x v T1) :
    ∃ p xs, v = .ref p ∧ ((SqL K H p xs ∧ ∀ q, H q = none → Q (.ref q) (upd H q (.lst xs.reverse))) ∨ (SqT K H p xs ∧ ∀ q, H q = none → Q (.ref q) (upd H q (.tup xs.reverse)))) := by
  have s := e.good.sub
  unfold revW at a
  split at a
  · obtain ⟨p, vs, rfl, hp, q1⟩ := r1.tupH s
    exact ⟨p, vs, rfl, .inr ⟨SqT.of hp, a.tup e g o1 q1.rev⟩⟩
  · obtain ⟨p, vs, rfl, hp, q1⟩ := r1.lstH s
    exact ⟨p, vs, rfl, .inl ⟨SqL.of hp, a.lst e g o1 q1.rev⟩⟩
  · exact a.elim
end
end Wk
end sec_W5f

section sec_W5h
set_option Elab.async false
set_option linter.all false
set_option maxRecDepth 100000
set_option maxHeartbeats 4000000
namespace Wk
open PySem PySem.Spec PyProof.Rows L2
/-! ## sorted of anything that can be collected -/
section
variable {prog : Program} {w : World} {A : Around} {E : Value → Shared → Prop} {s : Shared}
theorem sorted_col {β : Type} {x : Value} (P : List Value → Prop) {bs : List β} {R : Value → β → Prop} {enc : β → PyData} {Q : Value → Shared → Prop}
    (col : ∀ (Q' : List Value → Shared → Prop), (∀ (h' : Heap) (tk : Nat), (∀ b o, s.heap.get? b = some o → h'.get? b = some o) → ∀ vs, P vs → Q' vs { s with heap := h', toks := tk }) → wpAny (model prog w) A.in1 (collect x) Q' E s)
    (ee : ∀ vs, P vs → PySem.W.EachIs R vs bs) (eer : ∀ vs, P vs → PySem.W.EachIs (fun v b => ∃ as, Reads s.heap v (enc b) as) vs bs) (hal : PySem.W.AllAlike (bs.map enc)) (hk : PySem.W.Sortable (bs.map enc)) (hLL : ∀ vs, P vs → vs.length ≤ sizeLine) (hu : ∀ b, b ∈ bs → A.units + 2 + (enc b).depth < cLine)
    (h : ∀ (out : List Value) (p : Addr) (h1 h2 : Heap) (tk n : Nat), PySem.W.EachIs R out (bs.mergeSort (PySem.W.dataLe false enc)) → (∀ b o, s.heap.get? b = some o → h1.get? b = some o) → (∀ b o, h1.get? b = some o → h2.get? b = some o) → h1.objs.size ≤ p → h2.get? p = some (seqObj "list" (List.toArray out) n) → Q (.ref p) { s with heap := h2, toks := tk }) :
    wpAny (model prog w) A (call (.builtin "sorted") [x]) Q E s := by
  refine Calls.call_function_entry PyProof.Rows.kind_sorted PyProof.Rows.plain_sorted PyProof.Rows.entry_sorted (PyProof.Rows.args_sorted1 _) ?_
  unfold Builtin.«sorted»
  refine wpAny_bind (m := checkCount "sorted" 1 1 _) (wpAny_pure ?_)
  refine wpAny_bind (col _ fun h' tk hk' vs hP => ?_)
  have e := ee vs hP
  have er := eer vs hP
  have hL := hLL vs hP
  refine wpAny_bind (wpAny_newList ?_ hL)
  have hoL : (h'.push (seqObj "list" vs.toArray 0)).get? h'.objs.size = some (seqObj "list" vs.toArray 0) := Heap.get?_push_size _ rfl
  have kp : ∀ b o, s.heap.get? b = some o → (PySem.W.sortingHeap (h'.push (seqObj "list" vs.toArray 0)) h'.objs.size vs).get? b = some o := fun b o eb => by
    have hb : b < h'.objs.size := Heap.lt_size (hk' _ _ eb)
    exact PySem.W.sortingHeap_old (Nat.ne_of_lt hb) (Heap.get?_push_of_some _ (hk' _ _ eb))
  have er' : PySem.W.EachIs (fun v b => ∃ as, Reads (PySem.W.sortingHeap (h'.push (seqObj "list" vs.toArray 0)) h'.objs.size vs) v (enc b) as) vs bs := er.mono fun _ _ ⟨as, r⟩ => ⟨as, PyProof.Rows.Reads.keeps kp r⟩
  have S := PySem.W.SortsAt.data (prog := prog) (w := w) (A := A.in1.in1) (s := { s with heap := PySem.W.sortingHeap (h'.push (seqObj "list" vs.toArray 0)) h'.objs.size vs, toks := tk }) (PySem.W.each_map (R := fun v d => ∃ as, Reads (PySem.W.sortingHeap (h'.push (seqObj "list" vs.toArray 0)) h'.objs.size vs) v d as) enc er') hal hk (PySem.W.bound_map hu)
  show wpAny _ _ _ _ _ { s with heap := h'.push (seqObj "list" vs.toArray 0), toks := tk }
  refine wpAny_bind (wpAny_holding (wpAny_call_entry PyProof.Rows.slot_list_sort ⟨_, hoL, rfl⟩ PyProof.Rows.entry_list_sort
    (PySem.W.list_sort_vals (s := { s with heap := h'.push (seqObj "list" vs.toArray 0), toks := tk }) hoL S hL ⟨_, rfl, ?_⟩) (PyProof.Rows.args_list_sort _)))
  obtain ⟨e', he'⟩ := PyProof.Rows.sortedHeap_at (vs := vs) (out := (PySem.W.sortVals (PySem.W.dataKind (PySem.W.sortingHeap (h'.push (seqObj "list" vs.toArray 0)) h'.objs.size vs) (bs.map enc)) false vs vs).toArray) hoL
  refine wpAny_pure ⟨_, rfl, ?_⟩
  refine h _ h'.objs.size h' _ tk e' (PySem.W.sortVals_data false e er' hal) hk' (fun b o eb => ?_) (Nat.le_refl _) he'
  have hb : b < h'.objs.size := Heap.lt_size eb
  rw [PyProof.Rows.sortedHeap_old (Nat.ne_of_lt hb) (by rw [size_push']; exact Nat.lt_succ_of_lt hb)]
  exact Heap.get?_push_of_some _ eb
end
variable {X : Cx}
abbrev RCall := List V → Hp → VK → Prop
theorem each_vals {H : Hp} {pins : List (Addr × Obj)} {s : Shared} {σ : L2.St} (I : Inv X pins σ H s) : ∀ {ys : List V} {us : List Value} {ds : List PyData}, Vals ys us → DpAll X.K H ys ds →
    PySem.W.EachIs (fun (u : Value) (b : V × PyData) => RelV b.1 u) us (ys.zip ds) ∧ PySem.W.EachIs (fun (v : Value) (b : V × PyData) => ∃ as, Reads s.heap v b.2 as) us (ys.zip ds) ∧ (ys.zip ds).map (·.2) = ds ∧ (ys.zip ds).map (·.1) = ys
  | [], us, ds, r, d => by
    cases r
    cases d
    exact ⟨.nil, .nil, rfl, rfl⟩
  | y :: ys, us, ds, r, d => by
    cases r with
    | cons r1 r2 =>
      cases d with
      | cons d1 d2 =>
        obtain ⟨h1, h2, h3, h4⟩ := each_vals I r2 d2
        exact ⟨.cons r1 h1, .cons (Dp.reads I _ _ _ d1 r1) h2, by simp [h3], by simp [h4]⟩
theorem vals_each {γ : Type} {f : γ → V} : ∀ {us : List Value} {bs : List γ}, PySem.W.EachIs (fun (u : Value) (b : γ) => RelV (f b) u) us bs → Vals (bs.map f) us
  | _, _, .nil => .nil
  | _, _, .cons a b => .cons a (vals_each b)
/-! ## the calls -/
def rSortP (K : Frag) : RCall := fun xs H Q => ∃ a ys ds, xs = [.ref a] ∧ (SqL K H a ys ∨ SqT K H a ys) ∧ DpAll K H ys ds ∧ PySem.W.AllAlike ds ∧ PySem.W.Sortable ds ∧ (∀ d ∈ ds, d.depth ≤ 60) ∧
  ∀ p, H p = none → Q (.ref p) (upd H p (.lst (((ys.zip ds).mergeSort (PySem.W.dataLe false (·.2))).map (·.1))))
theorem cr_sortP (hu : X.A.units + 100 < cLine) : CallR X (.builtin "sorted") (rSortP X.K) := by
  intro pins s σ H xs us Q I r h
  obtain ⟨a, ys, ds, rfl, hs, hd, hal, hk, hdp, q⟩ := h
  rw [Vals.ref1 r]
  have main : ∀ (its : List Value) (T : String) (o : Obj) (n : Nat), T = "list" ∨ T = "tuple" → Vals ys its → ys.length ≤ sizeLine → s.heap.get? a = some o → o.cls = .type T → o.data = .seq its.toArray n → wpAny (model X.prog X.w) X.A (call (.builtin "sorted") [.ref a]) (EP X pins σ Q) X.xe s := by
    intro its T o n hT rv hz ho hc hdat
    obtain ⟨e1, e2, e3, e4⟩ := each_vals I rv hd
    have hlen := rv.length
    refine sorted_col (fun vs => vs = its) (fun Q' hQ' => wpAny_collect_seq a hT ho hc hdat (fun h' kp => hQ' h' s.toks kp _ (by simp)) (by rw [List.size_toArray, ← hlen]; exact hz)) (fun vs z => by subst z; exact e1) (fun vs z => by subst z; exact e2) (by rw [e3]; exact hal) (by rw [e3]; exact hk) (fun vs z => by subst z; rw [← hlen]; exact hz) (fun b hb => ?_) fun out p h1 h2 tk n2 g1 g2 g3 g4 g5 => ?_
    · have := hdp b.2 (by rw [← e3]; exact List.mem_map.mpr ⟨b, hb, rfl⟩)
      omega
    · have I1 : Inv X pins σ H { s with heap := h1, toks := tk } := I.kept g2
      have vo := vals_each (f := fun b : V × PyData => b.1) g1
      refine ⟨.ref p, upd H p (.lst (((ys.zip ds).mergeSort (PySem.W.dataLe false (·.2))).map (·.1))), I1.laid (t' := tk) g3 g4 ⟨?_, out, n2, vo, g5⟩, rfl, q p (I1.hok.fresh g4)⟩
      rw [List.length_map, List.length_mergeSort, ← List.length_map (f := (·.1)), e4]
      exact hz
  rcases hs with hs | hs
  · obtain ⟨its, rv, ⟨o, n, ho, hc, hdn, hdt⟩, hz⟩ := I.list hs
    exact main its "list" o n (.inl rfl) rv hz ho hc hdt
  · obtain ⟨its, rv, ⟨o, ho, hc, n, hdt⟩, hz⟩ := I.tuple hs
    exact main its "tuple" o n (.inr rfl) rv hz ho hc hdt
theorem foldl_mem {f : PyData → PyData → Bool} : ∀ (xs : List PyData) (x : PyData), xs.foldl (fun a y => if f y a then y else a) x ∈ x :: xs
  | [], x => by simp
  | y :: ys, x => by
    rw [List.foldl_cons]
    have := foldl_mem (f := f) ys (if f y x then y else x)
    rcases List.mem_cons.mp this with e | e
    · rw [e]; split <;> simp
    · exact List.mem_cons_of_mem _ (List.mem_cons_of_mem _ e)
theorem vals_at {its : List Value} {ys : List V} (rv : Vals ys its) : ∀ {i : Nat} {v : Value}, its[i]? = some v → ∃ y, ys[i]? = some y ∧ RelV y v := by
  induction rv with
  | nil => intro i v h; simp at h
  | cons r t ih =>
    intro i v h
    cases i with
    | zero => simp at h; subst h; exact ⟨_, rfl, r⟩
    | succ i => simpa using ih (by simpa using h)
theorem dps_at {K : Frag} {H : Hp} : ∀ {ys : List V} {ds : List PyData}, DpAll K H ys ds → ∀ {i : Nat} {y : V}, ys[i]? = some y → ∃ d, ds[i]? = some d ∧ Dp K H y d
  | _, _, .nil, i, y, h => by simp at h
  | _, _, .cons d t, 0, y, h => by simp at h; subst h; exact ⟨_, rfl, d⟩
  | _, _, .cons d t, i + 1, y, h => by simpa using dps_at t (by simpa using h)
def rMinP (K : Frag) (f : PyData → List PyData → PyData) : RCall := fun xs H Q => ∃ a ys d0 ds, xs = [.ref a] ∧ (SqL K H a ys ∨ SqT K H a ys) ∧ DpAll K H ys (d0 :: ds) ∧ PySem.W.AlikeAll (d0 :: ds) ∧ PyData.depthAll (d0 :: ds) ≤ 60 ∧
  ∀ (i : Nat) (y : V), ys[i]? = some y → (d0 :: ds)[i]? = some (f d0 ds) → Q y H
theorem min_fin {pins : List (Addr × Obj)} {s : Shared} {σ : L2.St} {H : Hp} {Q : VK} {ys : List V} {its : List Value} {d0 : PyData} {ds : List PyData} {f : PyData → List PyData → PyData} (hf : f d0 ds ∈ d0 :: ds) (I : Inv X pins σ H s) (rv : Vals ys its) (hd : DpAll X.K H ys (d0 :: ds)) (ha : PySem.W.AlikeAll (d0 :: ds))
    (q : ∀ (i : Nat) (y : V), ys[i]? = some y → (d0 :: ds)[i]? = some (f d0 ds) → Q y H) (i : Nat) (v : Value) (h' : Heap) (tk : Nat) (bs : List Addr) (hv : its.toArray[i]? = some v) (hr : Reads h' v (f d0 ds) bs) (hk : ∀ b o, s.heap.get? b = some o → h'.get? b = some o) : EP X pins σ Q v { s with heap := h', toks := tk } := by
  have hv : its[i]? = some v := by simpa using hv
  obtain ⟨y, hy, ry⟩ := vals_at rv hv
  obtain ⟨d, hd1, hd2⟩ := dps_at hd hy
  obtain ⟨as, r1⟩ := Dp.reads I d y v hd2 ry
  have e := PySem.W.alike_unique d (f d0 ds) v as bs (ha.1 _ (List.mem_of_getElem? hd1) _ hf) (PyProof.Rows.Reads.keeps hk r1) hr
  exact ⟨y, H, I.kept hk, ry, q i y hy (by rw [hd1, e])⟩
theorem cr_minP (hc : X.calm = true) (hu : X.A.units + 100 < cLine) : CallR X (.builtin "min") (rMinP X.K PySem.W.minD) := by
  intro pins s σ H xs us Q I r h
  obtain ⟨a, ys, d0, ds, rfl, hs, hd, ha, hdp, q⟩ := h
  rw [Vals.ref1 r]
  rcases hs with hs | hs
  · obtain ⟨its, rv, hl, hz⟩ := I.list hs
    obtain ⟨as, ra⟩ := Dp.readsAll I _ _ its hd rv
    exact PySem.W.min_list_data (I.ok.hd hc) hl.isList (by simpa using ra) ha (by omega) (min_fin (foldl_mem ds d0) I rv hd ha q)
  · obtain ⟨its, rv, hl, hz⟩ := I.tuple hs
    obtain ⟨as, ra⟩ := Dp.readsAll I _ _ its hd rv
    exact PySem.W.min_tuple_data (I.ok.hd hc) hl (by simpa using ra) ha (by omega) (min_fin (foldl_mem ds d0) I rv hd ha q)
theorem cr_maxP (hc : X.calm = true) (hu : X.A.units + 100 < cLine) : CallR X (.builtin "max") (rMinP X.K PySem.W.maxD) := by
  intro pins s σ H xs us Q I r h
  obtain ⟨a, ys, d0, ds, rfl, hs, hd, ha, hdp, q⟩ := h
  rw [Vals.ref1 r]
  rcases hs with hs | hs
  · obtain ⟨its, rv, hl, hz⟩ := I.list hs
    obtain ⟨as, ra⟩ := Dp.readsAll I _ _ its hd rv
    exact PySem.W.max_list_data (I.ok.hd hc) hl.isList (by simpa using ra) ha (by omega) (min_fin (foldl_mem ds d0) I rv hd ha q)
  · obtain ⟨its, rv, hl, hz⟩ := I.tuple hs
    obtain ⟨as, ra⟩ := Dp.readsAll I _ _ its hd rv
    exact PySem.W.max_tuple_data (I.ok.hd hc) hl (by simpa using ra) ha (by omega) (min_fin (foldl_mem ds d0) I rv hd ha q)
theorem preSum_get (val : Nat → Int) : ∀ (n : Nat), preSum val n = ((List.range n).map val).sum
  | 0 => rfl
  | n + 1 => by
    rw [List.range_succ, List.map_append, List.sum_append, ← preSum_get val n]
    simp [preSum]
theorem preSum_all (ns : List Int) : preSum (fun i => ns.getD i 0) ns.length = ns.sum := by
  rw [preSum_get]
  congr 1
  refine List.ext_getElem (by simp) fun i h1 h2 => ?_
  simp at h1
  simp [h1]
/-- the sum of a tuple of ints -/
def rSumT (K : Frag) : RCall := fun vs H Q => ∃ (a : Addr) (ns : List Int), vs = [V.ref a] ∧ SqT K H a (ns.map V.int) ∧ Q (.int ns.sum) H
theorem cr_sumT (hc : X.calm = true) : CallR X (.builtin "sum") (rSumT X.K) := by
  intro pins s σ H vs us Q I r h
  obtain ⟨a, ns, rfl, hs, q⟩ := h
  rw [Vals.ref1 r]
  obtain ⟨its, rv, hl, hz⟩ := I.tuple hs
  have hi := rv.ints
  have hlen := rv.length
  rw [List.length_map] at hlen
  refine call_sum_walkAnyS (PySem.W.iter_tupleW (A := X.A.in1) (I.ok.hd hc) hl fun s₂ e W st hfp hw hk => ?_)
  refine ⟨_, _, _, _, _, _, _, fun i => ns.getD i 0, rfl, W, st, hfp, fun i v hv => ?_, fun s' t' m => ?_⟩
  · have hv : its[i]? = some v := by simpa using hv
    obtain ⟨y, hy, ry⟩ := vals_at rv hv
    rw [List.getElem?_map] at hy
    obtain ⟨n, hn, rfl⟩ := Option.map_eq_some_iff.mp hy
    obtain ⟨t, rfl⟩ := ry
    exact ⟨t, by show _ = Value.int (ns.getD i 0) t; rw [List.getD_eq_getElem?_getD, hn]; rfl⟩
  · obtain ⟨h', tk, rfl, hk'⟩ := PySem.W.moved_old e rfl m
    refine ⟨.int ns.sum, H, I.kept hk', ?_, q⟩
    have e2 : preSum (fun i => ns.getD i 0) its.toArray.size = ns.sum := by
      rw [List.size_toArray, ← hlen]; exact preSum_all ns
    exact ⟨t', by rw [e2]⟩
theorem each_at : ∀ (acc : List Value) (ks : List L2.Key), acc.length = ks.length → (∀ (j : Nat) (v : Value), acc[j]? = some v → ∃ k, ks[j]? = some k ∧ RelV (kV k) v) → PySem.W.EachIs (fun (u : Value) (k : L2.Key) => RelV (kV k) u) acc ks
  | [], [], _, _ => .nil
  | [], _ :: _, l, _ => by simp at l
  | _ :: _, [], l, _ => by simp at l
  | u :: us, k :: ks, l, h => by
    obtain ⟨k', e, r⟩ := h 0 u rfl
    cases e
    exact .cons r (each_at us ks (by simpa using l) fun j v e => by simpa using h (j + 1) v (by simpa using e))
/-- a dict's keys, sorted -/
def rSortK : RCall := fun xs H Q => ∃ a kvs, xs = [.ref a] ∧ H a = some (.dK kvs) ∧ PySem.W.AllAlike (kvs.map fun p => kP p.1) ∧ PySem.W.Sortable (kvs.map fun p => kP p.1) ∧
  ∀ p, H p = none → Q (.ref p) (upd H p (.lst (((kvs.map (·.1)).mergeSort (PySem.W.dataLe false kP)).map kV)))
theorem cr_sortK (hcalm : X.calm = true) (hu : X.A.units + 100 < cLine) : CallR X (.builtin "sorted") rSortK := by
  intro pins s σ H xs us Q I r h
  obtain ⟨a, kvs, rfl, hd, hal, hk, q⟩ := h
  rw [Vals.ref1 r]
  obtain ⟨z, lo, vs, rel, dd⟩ := dk_of I.hok hd
  obtain ⟨ep, hat⟩ := dd.dictAt
  have hkeys : vs.map (·.1) = kvs.map (·.1) := rel.keys.symm
  have hl : vs.length = kvs.length := by simpa using congrArg List.length hkeys
  have es : ∀ {acc : List Value} {ks : List L2.Key}, acc.length = ks.length → (∀ (j : Nat) (v : Value), acc[j]? = some v → ∃ k, ks[j]? = some k ∧ RelV (kV k) v) → PySem.W.EachIs (fun (u : Value) (k : L2.Key) => RelV (kV k) u) acc ks := fun {acc ks} => each_at acc ks
  have hz : vs.length ≤ sizeLine := by rw [hl]; exact z
  refine sorted_col (fun us => PySem.W.EachIs (fun (u : Value) (k : L2.Key) => RelV (kV k) u) us (kvs.map (·.1))) (enc := kP) (fun Q' hQ' => ?_) (fun _ h => h) (fun us h => h.mono fun u k r => ?_) (by rw [List.map_map]; exact hal) (by rw [List.map_map]; exact hk) (fun us h => ?_) (fun b hb => ?_) fun out p h1 h2 tk n2 g1 g2 g3 g4 g5 => ?_
  · refine PySem.W.kdu_collect (A := X.A.in1) (PySem.W.kdl_dict (knd := mixKind X.prog X.w) (kvs := vs) (ep := ep) lo) (I.ok.hd hcalm) hat hz fun h' tk acc hkk hacc => hQ' h' tk hkk _ (es (by rw [Array.length_toList, hacc.1, hl, List.length_map]) fun j v e => ?_)
    obtain ⟨k, x, e1, e2⟩ := hacc.2 j v (by rw [← Array.getElem?_toList]; exact e)
    refine ⟨k, ?_, ?_⟩
    · rw [← hkeys, List.getElem?_map, e1]; rfl
    · rcases keyIs_shape (show keyIs k v = true from e2) with ⟨i, t, ek, ev⟩ | ⟨y, t, ek, ev⟩
      · subst ek ev; exact ⟨t, rfl⟩
      · subst ek ev; exact ⟨t, rfl⟩
  · cases k with
    | inl i => obtain ⟨t, rfl⟩ := r; exact ⟨_, .int i t⟩
    | inr x => obtain ⟨t, rfl⟩ := r; exact ⟨_, .str x t⟩
  · have := h.length
    rw [List.length_map] at this
    omega
  · cases b <;> (simp [kP, PyData.depth]; omega)
  · have I1 : Inv X pins σ H { s with heap := h1, toks := tk } := I.kept g2
    have vo := vals_each (f := kV) g1
    refine ⟨.ref p, upd H p (.lst (((kvs.map (·.1)).mergeSort (PySem.W.dataLe false kP)).map kV)), I1.laid (t' := tk) g3 g4 ⟨?_, out, n2, vo, g5⟩, rfl, q p (I1.hok.fresh g4)⟩
    rw [List.length_map, List.length_mergeSort, List.length_map]
    exact z
/-- what reads as data, in whatever state -/
def ReadsIn (X : Cx) (H : Hp) (v : V) (d : PyData) : Prop := ∀ (pins : List (Addr × Obj)) (σ : L2.St) (s : Shared), Inv X pins σ H s → ∀ u, RelV v u → ∃ as, Reads s.heap u d as ∧ (d.hasDict = true → sysModules ∉ as)
/-- what is shown -/
def rReprP (X : Cx) : RCall := fun vs H Q => ∃ v d, vs = [v] ∧ ReadsIn X H v d ∧ d.showable = true ∧ d.shown.length ≤ sizeLine ∧ d.depth ≤ 60 ∧ Q (.str d.shown) H
theorem cr_reprP (hu : X.A.units + 100 < cLine) (hg : X.A.guards = some []) : CallR X (.builtin "repr") (rReprP X) := by
  intro pins s σ H vs us Q I r h
  obtain ⟨v, d, rfl, hd, hs, hz, hdp, q⟩ := h
  obtain ⟨u, rfl, rx⟩ := vals1 r
  obtain ⟨as, ra, nd⟩ := hd pins σ s I u rx
  cases ra with
  | none => exact PySem.P.repr_of_none ⟨.str _, H, I.tok _, ⟨_, rfl⟩, q⟩
  | bool b => exact PySem.P.repr_of_bool ⟨.str _, H, I.tok _, ⟨_, rfl⟩, q⟩
  | int i t => exact PySem.P.repr_of_int (by simpa [PyData.showable] using hs) ⟨.str _, H, I.tok _, ⟨_, rfl⟩, q⟩
  | str x t => exact PySem.P.repr_of_str ⟨.str _, H, I.tok _, ⟨_, rfl⟩, q⟩ hz
  | list h1 h2 h3 h4 => exact repr_of_reads' (.list h1 h2 h3 h4) hs nd hg (by omega) (fun _ _ e => e) (fun h' u tk hk => ⟨.str _, H, I.kept hk, ⟨_, rfl⟩, q⟩) hz
  | tuple h1 h2 h3 h4 => exact repr_of_reads' (.tuple h1 h2 h3 h4) hs nd hg (by omega) (fun _ _ e => e) (fun h' u tk hk => ⟨.str _, H, I.kept hk, ⟨_, rfl⟩, q⟩) hz
  | dict h1 h2 h3 h4 h5 => exact repr_of_reads' (.dict h1 h2 h3 h4 h5) hs nd hg (by omega) (fun _ _ e => e) (fun h' u tk hk => ⟨.str _, H, I.kept hk, ⟨_, rfl⟩, q⟩) hz
end Wk
end sec_W5h

section sec_W5i
set_option Elab.async false
set_option linter.all false
set_option maxRecDepth 100000
set_option maxHeartbeats 4000000
namespace Wk
open PySem PySem.Spec PyProof.Rows L2
variable [Tab]
/-! ## ground data -/
mutual
theorem gnd_pl : ∀ d : D, gnd d = true → pl d = true
  | .non, _ => rfl | .bl _, _ => rfl | .int _, _ => rfl | .str _, _ => rfl
  | .tup xs, h => by simp only [pl]; exact gnds_pls xs (by simpa [gnd] using h)
  | .lst _ _, h => by simp [gnd] at h
  | .hand, h => by simp [gnd] at h
  | .scr _, h => by simp [gnd] at h
  | .dik _ _, h => by simp [gnd] at h
  | .dit _ _, h => by simp [gnd] at h
theorem gnds_pls : ∀ d : List D, gnds d = true → pls d = true
  | [], _ => rfl
  | d :: ds, h => by
    simp only [gnds, Bool.and_eq_true] at h
    simp [pls, gnd_pl d h.1, gnds_pls ds h.2]
end
theorem gnds_mem {ds : List D} (h : gnds ds = true) : ∀ d ∈ ds, gnd d = true := by
  induction ds with
  | nil => simp
  | cons d ds ih =>
    simp only [gnds, Bool.and_eq_true] at h
    intro e he
    rcases List.mem_cons.mp he with rfl | he
    · exact h.1
    · exact ih h.2 e he
mutual
theorem pyD_inj : ∀ (x y : D), gnd x = true → gnd y = true → pyD x = pyD y → x = y := by
  intro x y hx hy e
  cases x <;> cases y <;> simp_all [gnd, pyD]
  exact pyDs_inj _ _ hx hy e
theorem pyDs_inj : ∀ (xs ys : List D), gnds xs = true → gnds ys = true → pyDs xs = pyDs ys → xs = ys
  | [], [], _, _, _ => rfl
  | [], _ :: _, _, _, e => by simp [pyDs] at e
  | _ :: _, [], _, _, e => by simp [pyDs] at e
  | x :: xs, y :: ys, hx, hy, e => by
    simp only [gnds, Bool.and_eq_true] at hx hy
    simp only [pyDs, List.cons.injEq] at e
    rw [pyD_inj x y hx.1 hy.1 e.1, pyDs_inj xs ys hx.2 hy.2 e.2]
end
theorem pyDs_map (ds : List D) : pyDs ds = ds.map pyD := by
  induction ds with
  | nil => rfl
  | cons d ds ih => simp [pyDs, ih]
theorem fold_py {f : D → D → Bool} {g : PyData → PyData → Bool} (h : ∀ a b, g (pyD a) (pyD b) = f a b) : ∀ (xs : List D) (x : D), pyD (xs.foldl (fun a y => if f y a = true then y else a) x) = (pyDs xs).foldl (fun a y => if g y a = true then y else a) (pyD x)
  | [], x => rfl
  | y :: ys, x => by
    simp only [List.foldl_cons, pyDs, h]
    rw [fold_py h ys]
    congr 1
    split <;> rfl
theorem fold_mem {f : D → D → Bool} : ∀ (xs : List D) (x : D), xs.foldl (fun a y => if f y a = true then y else a) x ∈ x :: xs
  | [], x => by simp
  | y :: ys, x => by
    rw [List.foldl_cons]
    rcases List.mem_cons.mp (fold_mem (f := f) ys (if f y x = true then y else x)) with e | e
    · rw [e]; split <;> simp
    · exact List.mem_cons_of_mem _ (List.mem_cons_of_mem _ e)
section
variable {K : Frag} {hd : Option Addr} {F H : Hp}
mutual
theorem Rep.gnd : ∀ {d : D} {v : V} {T : ASet}, Wk.gnd d = true → Rep K F H hd d v T → Rep K F H hd d v (fun _ => False)
  | .non, _, _, _, h => h
  | .bl _, _, _, _, h => h
  | .int _, _, _, _, h => h
  | .str _, _, _, _, h => h
  | .tup xs, v, T, g, h => by
    obtain ⟨a, vs, e, q, r⟩ := h
    exact ⟨a, vs, e, q, Reps.gnd (by simpa [Wk.gnd] using g) r⟩
  | .lst _ _, _, _, g, _ => by simp [Wk.gnd] at g
  | .hand, _, _, g, _ => by simp [Wk.gnd] at g
  | .scr _, _, _, g, _ => by simp [Wk.gnd] at g
  | .dik _ _, _, _, g, _ => by simp [Wk.gnd] at g
  | .dit _ _, _, _, g, _ => by simp [Wk.gnd] at g
theorem Reps.gnd : ∀ {d : List D} {v : List V} {T : ASet}, gnds d = true → Reps K F H hd d v T → Reps K F H hd d v (fun _ => False)
  | [], _, _, _, h => h
  | d :: ds, vs, T, g, h => by
    obtain ⟨v, r, T1, T2, e, s1, s2, n, p, q⟩ := h
    simp only [gnds, Bool.and_eq_true] at g
    exact ⟨v, r, fun _ => False, fun _ => False, e, fun _ t => t, fun _ t => t, fun _ t => t.elim, Rep.gnd g.1 p, Reps.gnd g.2 q⟩
end
theorem Reps.zip : ∀ {ds : List D} {vs : List V}, Reps K F H hd ds vs (fun _ => False) → (vs.zip ds).map (·.2) = ds ∧ (vs.zip ds).map (·.1) = vs ∧ ∀ p ∈ vs.zip ds, Rep K F H hd p.2 p.1 fun _ => False
  | [], vs, h => by cases h; exact ⟨rfl, rfl, by simp⟩
  | d :: ds, vs, h => by
    obtain ⟨v, r, T1, T2, rfl, s1, s2, n, p, q⟩ := h
    obtain ⟨h1, h2, h3⟩ := Reps.zip (q.sub s2)
    refine ⟨by simp [h1], by simp [h2], fun p' hp => ?_⟩
    rw [List.zip_cons_cons] at hp
    rcases List.mem_cons.mp hp with e | e
    · rw [e]; exact p.sub s1
    · exact h3 p' e
theorem Reps.of_zip : ∀ {zs : List (V × D)}, (∀ p ∈ zs, Rep K F H hd p.2 p.1 fun _ => False) → Reps K F H hd (zs.map (·.2)) (zs.map (·.1)) fun _ => False
  | [], _ => rfl
  | z :: zs, h => ⟨z.1, zs.map (·.1), fun _ => False, fun _ => False, rfl, fun _ t => t, fun _ t => t, fun _ t => t.elim, h z (by simp), Reps.of_zip fun p hp => h p (by simp [hp])⟩
theorem Repk.keys : ∀ {kvs : List (L2.Key × D)} {us : List (L2.Key × V)} {T : ASet}, Repk K F H hd kvs us T → us.map (·.1) = kvs.map (·.1)
  | [], us, T, h => by cases h; rfl
  | (q, d) :: ds, us, T, h => by
    obtain ⟨v, r, T1, T2, rfl, s1, s2, n, p1, p2⟩ := h
    simp [Repk.keys p2]
theorem Reps.ks : ∀ (ks : List L2.Key) {T : ASet}, Reps K F H hd (ks.map kD) (ks.map kV) T
  | [], T => rfl
  | k :: ks, T => ⟨kV k, ks.map kV, fun _ => False, fun _ => False, rfl, fun _ t => t.elim, fun _ t => t.elim, fun _ t => t.elim, (by cases k <;> rfl), Reps.ks ks⟩
end
/-- sorted pairs -/
theorem sort_zip {ys : List V} {ds : List D} (h : (ys.zip ds).map (·.2) = ds) : ∃ zs : List (V × D), zs.Perm (ys.zip ds) ∧ zs.map (·.2) = srtD ds ∧ zs.map (·.1) = ((ys.zip (pyDs ds)).mergeSort (PySem.W.dataLe false (·.2))).map (·.1) := by
  refine ⟨(ys.zip ds).mergeSort fun p q => !ltD q.2 p.2, List.mergeSort_perm _ _, ?_, ?_⟩
  · rw [List.map_mergeSort (s := fun a b => !ltD b a) fun a _ b _ => rfl, h]; rfl
  · have e : ys.zip (pyDs ds) = (ys.zip ds).map fun p => (p.1, pyD p.2) := by
      rw [pyDs_map, List.zip_map_right]
      rfl
    rw [e, ← List.map_mergeSort (r := fun p q : V × D => !ltD q.2 p.2) (s := PySem.W.dataLe false (·.2)) (f := fun p : V × D => (p.1, pyD p.2)) fun a _ b _ => rfl, List.map_map]
    rfl
theorem sort_keys (ks : List L2.Key) : srtD (ks.map kD) = (ks.mergeSort (PySem.W.dataLe false kP)).map kD := by
  unfold srtD
  rw [List.map_mergeSort (s := fun a b => !ltD b a)]
  intro a _ b _
  cases a <;> cases b <;> rfl
/-! ## what is shown -/
section
variable {X : Cx} {hd : Option Addr} {F H : Hp}
mutual
theorem pyR_pl : ∀ d : D, pl d = true → pyR d = pyD d
  | .non, _ => rfl | .bl _, _ => rfl | .int _, _ => rfl | .str _, _ => rfl
  | .tup xs, h => by simp only [pyR, pyD, pyRs_pl xs (by simpa [pl] using h)]
  | .lst _ xs, h => by simp only [pyR, pyD, pyRs_pl xs (by simpa [pl] using h)]
  | .hand, h => by simp [pl] at h
  | .scr _, h => by simp [pl] at h
  | .dik _ _, h => by simp [pl] at h
  | .dit _ _, h => by simp [pl] at h
theorem pyRs_pl : ∀ d : List D, pls d = true → pyRs d = pyDs d
  | [], _ => rfl
  | d :: ds, h => by
    simp only [pls, Bool.and_eq_true] at h
    simp only [pyRs, pyDs, pyR_pl d h.1, pyRs_pl ds h.2]
end
mutual
theorem noDict_plain : ∀ d : PyData, d.plain = true → d.hasDict = false
  | .none, _ => by simp [PyData.hasDict] | .bool _, _ => by simp [PyData.hasDict] | .int _, _ => by simp [PyData.hasDict] | .str _, _ => by simp [PyData.hasDict]
  | .list xs, h => by simp only [PyData.hasDict]; exact noDict_plains xs (by simpa [PyData.plain] using h)
  | .tuple xs, h => by simp only [PyData.hasDict]; exact noDict_plains xs (by simpa [PyData.plain] using h)
  | .dict _, h => by simp [PyData.plain] at h
theorem noDict_plains : ∀ d : List PyData, PyData.plainAll d = true → PyData.hasDictAll d = false
  | [], _ => by simp [PyData.hasDictAll]
  | d :: ds, h => by
    simp only [PyData.plainAll, Bool.and_eq_true] at h
    simp [PyData.hasDictAll, noDict_plain d h.1, noDict_plains ds h.2]
end
mutual
theorem Rep.nl (s : Same F H) {pins : List (Addr × Obj)} {σ : L2.St} {st : Shared} (I : Inv X pins σ H st) : ∀ {d : D} {v : V} {T : ASet} {u : Value}, nlst d = true → Rep X.K F H hd d v T → RelV v u → ∃ as, Reads st.heap u (pyR d) as ∧ sysModules ∉ as
  | .non, _, _, u, _, h, r => by rw [(show _ = V.non from h)] at r; cases r; exact ⟨_, .none, by simp⟩
  | .bl b, _, _, u, _, h, r => by rw [(show _ = V.bl b from h)] at r; cases r; exact ⟨_, .bool b, by simp⟩
  | .int i, _, _, u, _, h, r => by rw [(show _ = V.int i from h)] at r; obtain ⟨t, rfl⟩ := r; exact ⟨_, .int i t, by simp⟩
  | .str x, _, _, u, _, h, r => by rw [(show _ = V.str x from h)] at r; obtain ⟨t, rfl⟩ := r; exact ⟨_, .str x t, by simp⟩
  | .tup xs, v, T, u, n, h, r => by
    obtain ⟨a, vs, rfl, q, rs⟩ := h.tupH s
    obtain ⟨its, rv, ⟨o, ho, hc, m, hdt⟩, hz⟩ := I.tuple (SqT.of q)
    obtain rfl : u = Value.ref a := r
    obtain ⟨as, h1, h2⟩ := Reps.nl s I (by simpa [nlst] using n) rs rv
    exact ⟨as, .tuple ho hc hdt (by simpa using h1), h2⟩
  | .dik o kvs, v, T, u, n, h, r => by
    obtain ⟨a, us, rfl, q, rs⟩ := h.dikH s
    obtain ⟨z, lo, vs, rel, ob, es, ep, ho, hx, hdt, hks, hps, hnd⟩ := dk_of I.hok q
    obtain rfl : u = Value.ref a := r
    obtain ⟨as, bs, g1, g2, g3, g4⟩ := Repk.nl s I (by simpa [nlst] using n) rs rel hps
    have na : a ≠ sysModules := by simpa using lo
    exact ⟨_, .dict ho hx.1 hdt g1 g2, by simp [g3, g4, Ne.symm na]⟩
  | .lst _ _, _, _, _, n, _, _ => by simp [nlst] at n
  | .hand, _, _, _, n, _, _ => by simp [nlst] at n
  | .scr _, _, _, _, n, _, _ => by simp [nlst] at n
  | .dit _ _, _, _, _, n, _, _ => by simp [nlst] at n
theorem Repk.nl (s : Same F H) {pins : List (Addr × Obj)} {σ : L2.St} {st : Shared} (I : Inv X pins σ H st) : ∀ {kvs : List (L2.Key × D)} {us : List (L2.Key × V)} {vs : List (L2.Key × Value)} {es : List DictEntry} {T : ASet}, nlstk kvs = true → Repk X.K F H hd kvs us T → KV us vs → Pairs (mixKind X.prog X.w) es vs →
    ∃ as bs, ReadsAll st.heap (es.map (·.key)) ((pyRk kvs).map (·.1)) as ∧ ReadsAll st.heap (es.map (·.val)) ((pyRk kvs).map (·.2)) bs ∧ sysModules ∉ as ∧ sysModules ∉ bs
  | [], us, vs, es, T, _, h, r, p => by
    cases h; cases r; cases p
    exact ⟨_, _, .nil, .nil, by simp, by simp⟩
  | (k, d) :: ds, us, vs, es, T, n, h, r, p => by
    obtain ⟨v, rr, T1, T2, rfl, s1, s2, nn, p1, p2⟩ := h
    simp only [nlstk, Bool.and_eq_true] at n
    cases r with
    | cons r1 r2 =>
      cases p with
      | cons e1 e2 e3 =>
        obtain ⟨as, bs, g1, g2, g3, g4⟩ := Repk.nl s I n.2 p2 r2 e3
        rename_i kv kvs' e es'
        obtain ⟨q1, q2⟩ := r1
        have q1 : k = kv.1 := q1
        subst q1
        obtain ⟨cs, c1, c2⟩ := Rep.nl s I n.1 p1 q2
        have hk : ∃ as, Reads st.heap e.key (kP kv.1) as ∧ as = [] := by
          rcases keyIs_shape (show keyIs kv.1 e.key = true from e1) with ⟨i, t, ek, ev⟩ | ⟨y, t, ek, ev⟩
          · rw [ek, ev]; exact ⟨_, .int i t, rfl⟩
          · rw [ek, ev]; exact ⟨_, .str y t, rfl⟩
        obtain ⟨_, hk, rfl⟩ := hk
        rw [← e2] at c1
        exact ⟨[] ++ as, cs ++ bs, .cons hk g1, .cons c1 g2, by simpa using g3, by simp [c2, g4]⟩
theorem Reps.nl (s : Same F H) {pins : List (Addr × Obj)} {σ : L2.St} {st : Shared} (I : Inv X pins σ H st) : ∀ {d : List D} {v : List V} {T : ASet} {u : List Value}, nlsts d = true → Reps X.K F H hd d v T → Vals v u → ∃ as, ReadsAll st.heap u (pyRs d) as ∧ sysModules ∉ as
  | [], _, _, u, _, h, r => by cases h; cases r; exact ⟨_, .nil, by simp⟩
  | d :: ds, vs, T, u, n, h, r => by
    obtain ⟨v, rr, T1, T2, rfl, s1, s2, nn, p, q⟩ := h
    simp only [nlsts, Bool.and_eq_true] at n
    cases r with
    | cons r1 r2 =>
      obtain ⟨as, h1, h2⟩ := Rep.nl s I n.1 p r1
      obtain ⟨bs, h3, h4⟩ := Reps.nl s I n.2 q r2
      exact ⟨as ++ bs, .cons h1 h3, by simp [h2, h4]⟩
end
theorem Rep.readsIn (s : Same F H) {d : D} {v : V} {T : ASet} (ok : (pl d || nlst d) = true) (r : Rep X.K F H hd d v T) : ReadsIn X H v (pyR d) := by
  intro pins σ st I u ru
  by_cases hp : pl d = true
  · obtain ⟨as, h⟩ := Dp.reads I _ _ _ (r.dp s hp) ru
    refine ⟨as, by rw [pyR_pl d hp]; exact h, fun z => ?_⟩
    rw [pyR_pl d hp, noDict_plain _ (pyD_plain d)] at z
    cases z
  · have hn : nlst d = true := by simpa [hp] using ok
    obtain ⟨as, h1, h2⟩ := Rep.nl s I hn r ru
    exact ⟨as, h1, fun _ => h2⟩
end
end Wk
end sec_W5i

section sec_W5g
set_option Elab.async false
set_option linter.all false
set_option maxRecDepth 100000
set_option maxHeartbeats 4000000
namespace Wk
open PySem PySem.Spec PyProof.Rows L2
variable [Tab]
/-! ## built-ins -/
def rOr (r r' : RCall) : RCall := fun xs H Q => r xs H Q ∨ r' xs H Q
def rLenL (K : Frag) : RCall := fun xs H Q => ∃ p ys, xs = [.ref p] ∧ (SqL K H p ys ∨ SqT K H p ys) ∧ Q (.int ys.length) H
def rLenS : RCall := fun xs H Q => ∃ z, xs = [.str z] ∧ z.length ≤ sizeLine ∧ Q (.int z.length) H
def rLenD : RCall := fun xs H Q => ∃ a kvs, xs = [V.ref a] ∧ H a = some (.dK kvs) ∧ Q (.int kvs.length) H
def rAbs : RCall := fun xs H Q => ∃ i, xs = [.int i] ∧ Q (.int (if i < 0 then -i else i)) H
def rInt : RCall := fun xs H Q => (∃ i, xs = [.int i] ∧ Q (.int i) H) ∨ ∃ k, xs = [.bl k] ∧ Q (.int (if k then 1 else 0)) H
def rTup (K : Frag) : RCall := fun xs H Q => ∃ p ys, xs = [.ref p] ∧ ((SqL K H p ys ∧ ∀ l, H l = none → Q (.ref l) (upd H l (.tup ys))) ∨ (SqT K H p ys ∧ Q (.ref p) H))
def rLst (K : Frag) : RCall := fun xs H Q => ∃ p ys, xs = [.ref p] ∧ (SqL K H p ys ∨ SqT K H p ys) ∧ ∀ l, H l = none → Q (.ref l) (upd H l (.lst ys))
def rMin2 : RCall := fun xs H Q => ∃ i j, xs = [.int i, .int j] ∧ Q (.int (if j < i then j else i)) H
def rMax2 : RCall := fun xs H Q => ∃ i j, xs = [.int i, .int j] ∧ Q (.int (if j > i then j else i)) H
def rStr : RCall := fun xs H Q => ∃ i, xs = [.int i] ∧ i.natAbs.log2 < 1920 ∧ Q (.str (toString i)) H
def rBlt (X : Cx) : B → RCall
  | .len => rOr (rLenL X.K) (rOr rLenS rLenD)
  | .abs => rAbs
  | .int => rInt
  | .tuple => rTup X.K
  | .list => rLst X.K
  | .min => rOr rMin2 (rMinP X.K PySem.W.minD)
  | .max => rOr rMax2 (rMinP X.K PySem.W.maxD)
  | .sum => rOr (rSum X.K) (rSumT X.K)
  | .all => rAll X.K
  | .any => rAny X.K
  | .sorted => rOr (rSortP X.K) rSortK
  | .repr => rReprP X
  | .str => rStr
def bFn : B → Value
  | .int => .type "int" | .tuple => .type "tuple" | .list => .type "list"
  | .len => .builtin "len" | .abs => .builtin "abs" | .min => .builtin "min" | .max => .builtin "max" | .sum => .builtin "sum" | .all => .builtin "all" | .any => .builtin "any" | .sorted => .builtin "sorted" | .repr => .builtin "repr" | .str => .type "str"
theorem call_blt {X : Cx} (hc : X.calm = true) (hu : X.A.units + 100 < cLine) : ∀ b, (b = .repr → X.A.guards = some []) → CallR X (bFn b) (rBlt X b)
  | .len, _ => call_len_seq.or (call_len_str.or call_lenD)
  | .abs, _ => call_abs
  | .int, _ => call_int1
  | .tuple, _ => call_tuple_of
  | .list, _ => call_list_of
  | .min, _ => (call_min2 hc).or (cr_minP hc hu)
  | .max, _ => (call_max2 hc).or (cr_maxP hc hu)
  | .sum, _ => (cr_sum hc).or (cr_sumT hc)
  | .all, _ => cr_all hc
  | .any, _ => cr_any hc
  | .sorted, _ => (cr_sortP hu).or (cr_sortK hc hu)
  | .repr, h => cr_reprP hu (h rfl)
  | .str, _ => call_str_int
theorem pe_blt {X : Cx} {b : B} {p pos : Pos} {e : Expr} {es : List Expr} {t : TA} (hc : X.calm = true) (hu : X.A.units + 100 < cLine) (hgu : b = .repr → X.A.guards = some []) (hg : Gl X (Str.ofString (bName b))) (hm : X.mg (Str.ofString (bName b)) = none) (ha : PA X (e :: es) t)
    (he : starEach (e :: es) X.env = (false, eval e X.env) :: starEach es X.env) (hpl : (backTo pos (starEach es X.env)).any (·.1) = false) :
    PE X (.Call (.Name (Str.ofString (bName b)) p) (e :: es) [] pos) (tCB (rBlt X b) t) := by
  cases b with
  | int => exact pe_callTy (call_blt hc hu .int hgu) hg hm (by decide +kernel) ha (by decide) (by decide) he hpl
  | tuple => exact pe_callTy (call_blt hc hu .tuple hgu) hg hm (by decide +kernel) ha (by decide) (by decide) he hpl
  | list => exact pe_callTy (call_blt hc hu .list hgu) hg hm (by decide +kernel) ha (by decide) (by decide) he hpl
  | len => exact pe_callB (call_blt hc hu .len hgu) hg hm (by decide +kernel) ha (by decide) (by decide) he hpl
  | abs => exact pe_callB (call_blt hc hu .abs hgu) hg hm (by decide +kernel) ha (by decide) (by decide) he hpl
  | min => exact pe_callB (call_blt hc hu .min hgu) hg hm (by decide +kernel) ha (by decide) (by decide) he hpl
  | max => exact pe_callB (call_blt hc hu .max hgu) hg hm (by decide +kernel) ha (by decide) (by decide) he hpl
  | sum => exact pe_callB (call_blt hc hu .sum hgu) hg hm (by decide +kernel) ha (by decide) (by decide) he hpl
  | all => exact pe_callB (call_blt hc hu .all hgu) hg hm (by decide +kernel) ha (by decide) (by decide) he hpl
  | any => exact pe_callB (call_blt hc hu .any hgu) hg hm (by decide +kernel) ha (by decide) (by decide) he hpl
  | sorted => exact pe_callB (call_blt hc hu .sorted hgu) hg hm (by decide +kernel) ha (by decide) (by decide) he hpl
  | repr => exact pe_callB (call_blt hc hu .repr hgu) hg hm (by decide +kernel) ha (by decide) (by decide) he hpl
  | str => exact pe_callTy (call_blt hc hu .str hgu) hg hm (by decide +kernel) ha (by decide) (by decide) he hpl
section
variable {X : Cx} {hd : Option Addr} {F H F0 H0 : Hp} {Q : V → Hp → Prop} {T : ASet}
/-- the least, the greatest of data -/
theorem mm_ok {f : D → D → Bool} {g : PyData → PyData → Bool} (hfg : ∀ a b, g (pyD a) (pyD b) = f a b) {K : Frag} {x : D} {xs : List D} {p : Addr} {us : List V} (m : MmOk (x :: xs)) (a : R1 K hd F0 H0 Q (xs.foldl (fun a y => if f y a = true then y else a) x)) (e : Ext K hd F0 H0 F H)
    (h : SqL K H p us ∨ SqT K H p us) (r : Reps K F H hd (x :: xs) us T) : rMinP K (fun a ys => ys.foldl (fun a y => if g y a = true then y else a) a) [.ref p] H Q := by
  have s := e.good.sub
  have hd0 := Reps.dp s (gnds_pls _ m.gn) r
  have hl := pyDs_depth (x :: xs)
  have dp := m.dp
  refine ⟨p, us, pyD x, pyDs xs, rfl, h, hd0, m.al, by show PyData.depthAll (pyDs (x :: xs)) ≤ 60; omega, fun i y hy hm => ?_⟩
  have hm : (pyDs (x :: xs))[i]? = some (pyD (xs.foldl (fun a y => if f y a = true then y else a) x)) := by
    rw [fold_py hfg]; exact hm
  rw [pyDs_map, List.getElem?_map] at hm
  obtain ⟨d, h1, h2⟩ := Option.map_eq_some_iff.mp hm
  have e2 := pyD_inj _ _ (gnds_mem m.gn d (List.mem_of_getElem? h1)) (gnds_mem m.gn _ (fold_mem xs x)) h2
  obtain ⟨v, h3, h4⟩ := Reps.get (Reps.gnd m.gn r) h1
  rw [hy] at h3
  cases h3
  rw [e2] at h4
  exact a _ F H (fun _ => False) e Own.none h4
theorem sort_ok {K : Frag} {xs : List D} {p : Addr} {us : List V} (m : SrOk xs) (a : R1 K hd F0 H0 Q (.lst true (srtD xs))) (e : Ext K hd F0 H0 F H) (g : HandOk K hd F0 H0) (h : SqL K H p us ∨ SqT K H p us) (r : Reps K F H hd xs us T) : rSortP K [.ref p] H Q := by
  have s := e.good.sub
  have hd0 := Reps.dp s (gnds_pls _ m.gn) r
  have dp := m.dp
  obtain ⟨z1, z2, z3⟩ := Reps.zip (Reps.gnd m.gn r)
  obtain ⟨zs, y1, y2, y3⟩ := sort_zip z1
  refine ⟨p, us, pyDs xs, rfl, h, hd0, m.al, m.so, fun d hd => ?_, ?_⟩
  · rw [pyDs_map] at hd
    obtain ⟨d', h1, rfl⟩ := List.mem_map.mp hd
    have := pyD_depth d'
    have := deps_mem h1
    omega
  · rw [← y3]
    refine R1.lst (ds := srtD xs) (T := fun _ => False) a e g Own.none ?_
    rw [← y2]
    exact Reps.of_zip fun q hq => z3 q (y1.mem_iff.mp hq)
where
  deps_mem : ∀ {ds : List D} {d : D}, d ∈ ds → dep d ≤ deps ds
    | e :: ds, d, h => by
      rcases List.mem_cons.mp h with rfl | h
      · simp only [deps]; omega
      · have := deps_mem h
        simp only [deps]; omega
theorem blt_ok {b : B} {ds : List D} {vs : List V} (a : bltW b ds (R1 X.K hd F0 H0 Q)) (e : Ext X.K hd F0 H0 F H) (g : HandOk X.K hd F0 H0) (o : Own F H0 H T) (r : Reps X.K F H hd ds vs T) : rBlt X b vs H Q := by
  have s := e.good.sub
  unfold bltW at a
  split at a
  · obtain ⟨v, rfl, r'⟩ := r.inv1
    obtain ⟨p, us, rfl, hp, q⟩ := r'.tupH s
    exact .inl ⟨p, us, rfl, .inr (SqT.of hp), by rw [q.length]; exact a.val e rfl⟩
  · obtain ⟨v, rfl, r'⟩ := r.inv1
    obtain ⟨p, us, rfl, hp, q⟩ := r'.lstH s
    exact .inl ⟨p, us, rfl, .inl (SqL.of hp), by rw [q.length]; exact a.val e rfl⟩
  · obtain ⟨v, rfl, r'⟩ := r.inv1
    exact .inr (.inl ⟨_, by rw [(show v = V.str _ from r')], a.1, a.2.val e rfl⟩)
  · obtain ⟨v, rfl, r'⟩ := r.inv1
    obtain ⟨p, us, rfl, hp, q⟩ := r'.dikH s
    exact .inr (.inr ⟨p, us, rfl, hp, by rw [q.length]; exact a.val e rfl⟩)
  · obtain ⟨v, rfl, r'⟩ := r.inv1
    exact ⟨_, by rw [(show v = V.int _ from r')], a.val e rfl⟩
  · obtain ⟨v, rfl, r'⟩ := r.inv1
    exact .inl ⟨_, by rw [(show v = V.int _ from r')], a.val e rfl⟩
  · obtain ⟨v, rfl, r'⟩ := r.inv1
    exact .inr ⟨_, by rw [(show v = V.bl _ from r')], a.val e rfl⟩
  · obtain ⟨v, rfl, r'⟩ := r.inv1
    obtain ⟨p, us, rfl, hp, q⟩ := id (r'.tupH s)
    exact ⟨p, us, rfl, .inr ⟨SqT.of hp, a _ _ _ _ e o r'⟩⟩
  · obtain ⟨v, rfl, r'⟩ := r.inv1
    obtain ⟨p, us, rfl, hp, q⟩ := r'.lstH s
    exact ⟨p, us, rfl, .inl ⟨SqL.of hp, a.tup e g o q⟩⟩
  · obtain ⟨v, rfl, r'⟩ := r.inv1
    obtain ⟨p, us, rfl, hp, q⟩ := r'.tupH s
    exact ⟨p, us, rfl, .inr (SqT.of hp), a.lst e g o q⟩
  · obtain ⟨v, rfl, r'⟩ := r.inv1
    obtain ⟨p, us, rfl, hp, q⟩ := r'.lstH s
    exact ⟨p, us, rfl, .inl (SqL.of hp), a.lst e g o q⟩
  · obtain ⟨v, u, _, _, rfl, _, _, _, r1, r2⟩ := r.inv2
    exact .inl ⟨_, _, by rw [(show v = V.int _ from r1), (show u = V.int _ from r2)], a.val e rfl⟩
  · obtain ⟨v, u, _, _, rfl, _, _, _, r1, r2⟩ := r.inv2
    exact .inl ⟨_, _, by rw [(show v = V.int _ from r1), (show u = V.int _ from r2)], a.val e rfl⟩
  · obtain ⟨v, rfl, r'⟩ := r.inv1
    obtain ⟨p, us, rfl, hp, q⟩ := r'.lstH s
    exact .inr (mm_ok (f := ltD) (g := PySem.W.dataLt) (fun _ _ => rfl) a.1 a.2 e (.inl (SqL.of hp)) q)
  · obtain ⟨v, rfl, r'⟩ := r.inv1
    obtain ⟨p, us, rfl, hp, q⟩ := r'.lstH s
    exact .inr (mm_ok (f := fun a b => ltD b a) (g := fun a b => PySem.W.dataLt b a) (fun _ _ => rfl) a.1 a.2 e (.inl (SqL.of hp)) q)
  · obtain ⟨v, rfl, r'⟩ := r.inv1
    obtain ⟨p, us, rfl, hp, q⟩ := r'.tupH s
    exact .inr (mm_ok (f := ltD) (g := PySem.W.dataLt) (fun _ _ => rfl) a.1 a.2 e (.inr (SqT.of hp)) q)
  · obtain ⟨v, rfl, r'⟩ := r.inv1
    obtain ⟨p, us, rfl, hp, q⟩ := r'.tupH s
    exact .inr (mm_ok (f := fun a b => ltD b a) (g := fun a b => PySem.W.dataLt b a) (fun _ _ => rfl) a.1 a.2 e (.inr (SqT.of hp)) q)
  · obtain ⟨v, rfl, r'⟩ := r.inv1
    obtain ⟨p, us, rfl, hp, q⟩ := r'.lstH s
    obtain ⟨ns, e1, q'⟩ := a
    have := q.ints? e1
    subst this
    exact .inl ⟨p, ns, rfl, SqL.of hp, q'.val e rfl⟩
  · obtain ⟨v, rfl, r'⟩ := r.inv1
    obtain ⟨p, us, rfl, hp, q⟩ := r'.tupH s
    obtain ⟨ns, e1, q'⟩ := a
    have := q.ints? e1
    subst this
    exact .inr ⟨p, ns, rfl, SqT.of hp, q'.val e rfl⟩
  · obtain ⟨v, rfl, r'⟩ := r.inv1
    obtain ⟨p, us, rfl, hp, q⟩ := r'.lstH s
    exact .inl (sort_ok a.1 a.2 e g (.inl (SqL.of hp)) q)
  · obtain ⟨v, rfl, r'⟩ := r.inv1
    obtain ⟨p, us, rfl, hp, q⟩ := r'.tupH s
    exact .inl (sort_ok a.1 a.2 e g (.inr (SqT.of hp)) q)
  · obtain ⟨v, rfl, r'⟩ := r.inv1
    obtain ⟨p, us, rfl, hp, q⟩ := r'.dikH s
    rename_i kvs
    have hk := q.keys
    have py : pyDs (kvs.map fun p => kD p.1) = us.map fun p => kP p.1 := by
      have e1 : (us.map fun p => kP p.1) = (us.map (·.1)).map kP := by rw [List.map_map]; rfl
      rw [e1, hk, pyDs_map, List.map_map, List.map_map]
      refine List.map_congr_left fun p _ => ?_
      obtain ⟨k, d⟩ := p
      cases k <;> rfl
    have m := a.1
    refine .inr ⟨p, us, rfl, hp, by rw [← py]; exact m.al, by rw [← py]; exact m.so, ?_⟩
    rw [hk]
    have e2 : srtD (kvs.map fun p => kD p.1) = ((kvs.map (·.1)).mergeSort (PySem.W.dataLe false kP)).map kD := by
      rw [← sort_keys, List.map_map]; rfl
    have a2 := a.2
    rw [e2] at a2
    exact a2.lst e g Own.none (Reps.ks _)
  · obtain ⟨v, rfl, r'⟩ := r.inv1
    have m := a.1
    exact ⟨v, _, rfl, Rep.readsIn s m.pl r', m.sh, m.ln, m.dp, a.2.val e rfl⟩
  · obtain ⟨v, rfl, r'⟩ := r.inv1
    exact ⟨_, by rw [(show v = V.int _ from r')], a.1, a.2.val e rfl⟩
  · obtain ⟨v, rfl, r'⟩ := r.inv1
    obtain ⟨p, us, rfl, hp, q⟩ := r'.lstH s
    obtain ⟨ns, e1, q'⟩ := a
    have := q.bls? e1
    subst this
    exact ⟨p, ns, rfl, SqL.of hp, q'.val e rfl⟩
  · obtain ⟨v, rfl, r'⟩ := r.inv1
    obtain ⟨p, us, rfl, hp, q⟩ := r'.lstH s
    obtain ⟨ns, e1, q'⟩ := a
    have := q.bls? e1
    subst this
    exact ⟨p, ns, rfl, SqL.of hp, q'.val e rfl⟩
  · exact a.elim
/-! ## isinstance -/
theorem Rep.tyOf {K : Frag} (s : Same F H) (g : HandOk K hd F H) {d : D} {v : V} (r : Rep K F H hd d v T) : ∃ t : String, TyX K H v (.type t) ∧ ∀ u : Ty, kitB t (tyName u) = some (isiD d u) := by
  cases d with
  | non => rw [(show v = V.non from r)]; exact ⟨_, .base .non, fun u => by cases u <;> decide⟩
  | bl b => rw [(show v = V.bl b from r)]; exact ⟨_, .base (.bl b), fun u => by cases u <;> (show kitB _ _ = some _) <;> first | rfl | decide⟩
  | int i => rw [(show v = V.int i from r)]; exact ⟨_, .base (.int i), fun u => by cases u <;> (show kitB _ _ = some _) <;> first | rfl | decide⟩
  | str x => rw [(show v = V.str x from r)]; exact ⟨_, .base (.str x), fun u => by cases u <;> (show kitB _ _ = some _) <;> first | rfl | decide⟩
  | hand =>
    obtain ⟨a, e, rfl⟩ := r
    obtain ⟨_, c, cs, i, b, m, n, q, _⟩ := g a e
    exact ⟨_, .base (.lst q), fun u => by cases u <;> (show kitB _ _ = some _) <;> first | rfl | decide⟩
  | scr ns =>
    obtain ⟨a, rfl, q⟩ := r
    refine ⟨"list", ?_, fun u => by cases u <;> (show kitB _ _ = some _) <;> first | rfl | decide⟩
    rcases Same.seq s q with (q | ⟨o, q⟩) | ⟨o, its, n, q, c, _⟩
    · exact .base (.lst q)
    · exact .base (.frz q)
    · exact .kList q c
  | tup xs =>
    obtain ⟨a, vs, rfl, q, _⟩ := r.tupH s
    exact ⟨_, .base (.tup q), fun u => by cases u <;> (show kitB _ _ = some _) <;> first | rfl | decide⟩
  | lst o xs =>
    obtain ⟨a, vs, rfl, q, _⟩ := r.lstH s
    exact ⟨_, .base (.lst q), fun u => by cases u <;> (show kitB _ _ = some _) <;> first | rfl | decide⟩
  | dik o xs =>
    obtain ⟨a, vs, rfl, q, _⟩ := r.dikH s
    exact ⟨_, .base (.dK q), fun u => by cases u <;> (show kitB _ _ = some _) <;> first | rfl | decide⟩
  | dit o xs =>
    obtain ⟨a, vs, rfl, q, _⟩ := r.ditH s
    exact ⟨_, .base (.dT q), fun u => by cases u <;> (show kitB _ _ = some _) <;> first | rfl | decide⟩
end
theorem pe_isi {X : Cx} {t : Ty} {p p1 pos : Pos} {e : Expr} {te : TE} (hg : Gl X ("isinstance" : Str)) (hm : X.mg ("isinstance" : Str) = none) (hgt : Gl X (Str.ofString (tyName t))) (hmt : X.mg (Str.ofString (tyName t)) = none) (ha : PE X e te)
    (he : ∀ es, starEach (e :: es) X.env = (false, eval e X.env) :: starEach es X.env) :
    PE X (.Call (.Name ("isinstance" : Str) p) [e, .Name (Str.ofString (tyName t)) p1] [] pos) (tCB (rIsi X.K) (tCons te (tCons (tC (.ty (tyName t))) tNil))) := by
  have h1 : PE X (.Name (Str.ofString (tyName t)) p1) (tC (.ty (tyName t))) := by
    cases t with
    | int => exact pe_bltn hgt hmt (u := .type "int") (by decide +kernel) rfl (by decide) (by decide)
    | bool => exact pe_bltn hgt hmt (u := .type "bool") (by decide +kernel) rfl (by decide) (by decide)
    | str => exact pe_bltn hgt hmt (u := .type "str") (by decide +kernel) rfl (by decide) (by decide)
    | tuple => exact pe_bltn hgt hmt (u := .type "tuple") (by decide +kernel) rfl (by decide) (by decide)
    | list => exact pe_bltn hgt hmt (u := .type "list") (by decide +kernel) rfl (by decide) (by decide)
    | dict => exact pe_bltn hgt hmt (u := .type "dict") (by decide +kernel) rfl (by decide) (by decide)
  exact pe_callB call_isi hg hm (by decide +kernel) (pa_cons ha (pa_cons h1 pa_nil rfl) (he _)) (by decide) (by decide) (he _) rfl
end Wk
end sec_W5g

section sec_W6
set_option Elab.async false
set_option linter.all false
set_option maxRecDepth 100000
set_option maxHeartbeats 4000000
namespace Wk
open PySem PySem.Spec PyProof.Rows L2
variable [Tab]
/-! ## targets -/
mutual
/-- the slots behind a store -/
def bindV (H : Hp) : Tg → V → L2.St → Option L2.St
  | .name i, v, σ => some (σ.set i (some v))
  | .tup ts, .ref a, σ => match H a with
    | some (.tup vs) => bindVs H ts vs σ
    | some (.lst vs) => bindVs H ts vs σ
    | _ => none
  | .tup _, _, _ => none
def bindVs (H : Hp) : List Tg → List V → L2.St → Option L2.St
  | [], [], σ => some σ
  | t :: ts, v :: vs, σ => (bindV H t v σ).bind (bindVs H ts vs)
  | _, _, _ => none
end
def TGr (tg : Tg) : TG := fun v σ H Q => ∃ σ', bindV H tg v σ = some σ' ∧ Q σ' H
def TGrs (ts : List Tg) : TGs := fun vs σ H Q => ∃ σ', bindVs H ts vs σ = some σ' ∧ Q σ' H
/-- a name that the running scope owns -/
structure OwnSc (X : Cx) (sc0 : Scope) : Prop where
  nd : X.N.Nodup
  calm : X.calm = true
  own : ∀ x, locB sc0 x = true → Loc X.env.scope x ∧ (X.fn x = true ∨ X.env.scope.names.lookup x = some .local)
theorem starEach_of {e : Expr} (h : isStar e = false) (es : List Expr) (env : Env) : starEach (e :: es) env = (false, eval e env) :: starEach es env := by
  cases e <;> first | rfl | (simp [isStar] at h)
theorem assignEach_of {e : Expr} (h : isStar e = false) (es : List Expr) (env : Env) : assignEach (e :: es) env = (false, assign e env) :: assignEach es env := by
  cases e <;> first | rfl | (simp [isStar] at h)
section
variable {X : Cx} {sc0 : Scope}
theorem _root_.L2.PG.imp {ex : Expr} {t t' : TG} (h : PG X ex t) (i : ∀ v σ H Q, t' v σ H Q → t v σ H Q) : PG X ex t' := ⟨fun pins s σ H v u Q I r q => h.run pins s σ H v u Q I r (i v σ H Q q)⟩
theorem _root_.L2.PGs.imp {ex : List Expr} {t t' : TGs} (h : PGs X ex t) (i : ∀ v σ H Q, t' v σ H Q → t v σ H Q) : PGs X ex t' := ⟨fun pins s σ H v u Q I r q => h.run pins s σ H v u Q I r (i v σ H Q q)⟩
theorem bindVs_len {H : Hp} : ∀ {ts : List Tg} {vs : List V} {σ σ' : L2.St}, bindVs H ts vs σ = some σ' → vs.length = ts.length
  | [], [], _, _, _ => rfl
  | [], _ :: _, _, _, h => by simp [bindVs] at h
  | _ :: _, [], _, _, h => by simp [bindVs] at h
  | t :: ts, v :: vs, σ, σ', h => by
    simp only [bindVs, Option.bind_eq_some_iff] at h
    obtain ⟨σ1, _, h⟩ := h
    simp [bindVs_len h]
/-- two ways to unpack -/
theorem pg_two {es : List Expr} {k : Nat} {pos : Pos} {t : TGs} {n : Nat} (hc : X.calm = true) (h : PGs X es t) (hn : (assignEach es X.env).length = n) (hst : (assignEach es X.env).findIdx? (·.1) = none) :
    PG X (.Tuple es k pos) fun v σ H Q => gTup X.K n t v σ H Q ∨ gUnl X.K n t v σ H Q :=
  ⟨fun pins s σ H v u Q I r q => q.elim ((pg_tup hc h hn hst).run pins s σ H v u Q I r) ((pg_unl hc h hn hst).run pins s σ H v u Q I r)⟩
mutual
theorem pg_snd (o : OwnSc X sc0) : ∀ (tg : Tg) (ex : Expr), chkT X.N sc0 tg ex = true → PG X ex (TGr tg)
  | .name i, ex, h => by
    cases ex with
    | Name x p =>
      simp only [chkT, Bool.and_eq_true, decide_eq_true_eq] at h
      obtain ⟨l, f⟩ := o.own x h.2
      refine (pg_name o.nd h.1 l f).imp fun v σ H Q ⟨σ', b, q⟩ => ?_
      simp only [bindV, Option.some.injEq] at b
      subst b
      exact q
    | _ => simp [chkT] at h
  | .tup ts, ex, h => by
    cases ex with
    | Tuple es k p =>
      simp only [chkT] at h
      obtain ⟨h1, h2, h3⟩ := pgs_snd o ts es h
      refine (pg_two o.calm h1 h2 h3).imp fun v σ H Q ⟨σ', b, q⟩ => ?_
      have hl : ts.length = es.length := chkTs_len ts es h
      cases v with
      | ref a =>
        simp only [bindV] at b
        split at b
        · rename_i vs hv
          exact .inl ⟨a, vs, rfl, SqT.of hv, by rw [bindVs_len b, hl], σ', b, q⟩
        · rename_i vs hv
          exact .inr ⟨a, vs, rfl, SqL.of hv, by rw [bindVs_len b, hl], σ', b, q⟩
        · cases b
      | _ => simp [bindV] at b
    | _ => simp [chkT] at h
theorem pgs_snd (o : OwnSc X sc0) : ∀ (ts : List Tg) (es : List Expr), chkTs X.N sc0 ts es = true → PGs X es (TGrs ts) ∧ (assignEach es X.env).length = es.length ∧ (assignEach es X.env).findIdx? (·.1) = none
  | [], [], _ => ⟨pgs_nil.imp fun v σ H Q ⟨σ', b, q⟩ => by
      cases v with
      | nil =>
        simp only [bindVs, Option.some.injEq] at b
        subst b
        exact ⟨rfl, q⟩
      | cons d ds => simp [bindVs] at b, rfl, rfl⟩
  | [], _ :: _, h => by simp [chkTs] at h
  | _ :: _, [], h => by simp [chkTs] at h
  | t :: ts, e :: es, h => by
    simp only [chkTs, Bool.and_eq_true, Bool.not_eq_true'] at h
    obtain ⟨h1, h2, h3⟩ := pgs_snd o ts es h.2.2
    have h0 := pg_snd o t e h.2.1
    have ea := assignEach_of h.1 es X.env
    refine ⟨(pgs_cons h0 h1 (by rw [ea]; rfl)).imp fun v σ H Q ⟨σ', b, q⟩ => ?_, by rw [ea, List.length_cons, h2, List.length_cons], ?_⟩
    · cases v with
      | nil => simp [bindVs] at b
      | cons v vs =>
        simp only [bindVs, Option.bind_eq_some_iff] at b
        obtain ⟨σ1, b1, b2⟩ := b
        exact ⟨v, vs, rfl, σ1, b1, σ', b2, q⟩
    · rw [ea, List.findIdx?_cons, h3]
      rfl
theorem chkTs_len : ∀ (ts : List Tg) (es : List Expr), chkTs X.N sc0 ts es = true → ts.length = es.length
  | [], [], _ => rfl
  | [], _ :: _, h => by simp [chkTs] at h
  | _ :: _, [], h => by simp [chkTs] at h
  | t :: ts, e :: es, h => by
    simp only [chkTs, Bool.and_eq_true] at h
    simp [chkTs_len ts es h.2.2]
end
end
/-! ## frozen stores -/
mutual
/-- σ' is σ with the target's names at data -/
def Bound (K : Frag) (F H : Hp) (hd : Option Addr) : Tg → D → L2.St → L2.St → Prop
  | .name i, d, σ, σ' => ∃ v, Rep K F H hd (fr d) v (fun _ => False) ∧ σ' = σ.set i (some v)
  | .tup ts, .tup ds, σ, σ' => Bounds K F H hd ts ds σ σ'
  | .tup ts, .lst _ ds, σ, σ' => Bounds K F H hd ts ds σ σ'
  | .tup _, _, _, _ => False
def Bounds (K : Frag) (F H : Hp) (hd : Option Addr) : List Tg → List D → L2.St → L2.St → Prop
  | [], [], σ, σ' => σ' = σ
  | t :: ts, d :: ds, σ, σ' => ∃ σ1, Bound K F H hd t d σ σ1 ∧ Bounds K F H hd ts ds σ1 σ'
  | _, _, _, _ => False
end
section
variable {K : Frag} {hd : Option Addr} {F H : Hp}
mutual
theorem bindV_of (s : Same F H) : ∀ (tg : Tg) {d : D} {v : V} {env env' : Env'} {σ : L2.St}, Rep K F H hd (fr d) v (fun _ => False) → bindT tg d env = some env' → ∃ σ', bindV H tg v σ = some σ' ∧ Bound K F H hd tg d σ σ'
  | .name i, d, v, env, env', σ, r, b => ⟨_, rfl, v, r, rfl⟩
  | .tup ts, .tup ds, v, env, env', σ, r, b => by
    simp only [Wk.fr] at r
    obtain ⟨a, vs, rfl, hp, rs⟩ := r.tupH s
    obtain ⟨σ', b1, b2⟩ := bindVs_of s ts (σ := σ) rs (by simpa [bindT] using b)
    exact ⟨σ', by simp only [bindV, hp]; exact b1, b2⟩
  | .tup ts, .lst o ds, v, env, env', σ, r, b => by
    simp only [Wk.fr] at r
    obtain ⟨a, vs, rfl, hp, rs⟩ := r.lstH s
    obtain ⟨σ', b1, b2⟩ := bindVs_of s ts (σ := σ) rs (by simpa [bindT] using b)
    exact ⟨σ', by simp only [bindV, hp]; exact b1, b2⟩
  | .tup ts, .non, _, _, _, _, _, b => by simp [bindT] at b
  | .tup ts, .bl _, _, _, _, _, _, b => by simp [bindT] at b
  | .tup ts, .int _, _, _, _, _, _, b => by simp [bindT] at b
  | .tup ts, .str _, _, _, _, _, _, b => by simp [bindT] at b
  | .tup ts, .hand, _, _, _, _, _, b => by simp [bindT] at b
  | .tup ts, .scr _, _, _, _, _, _, b => by simp [bindT] at b
  | .tup ts, .dik _ _, _, _, _, _, _, b => by simp [bindT] at b
  | .tup ts, .dit _ _, _, _, _, _, _, b => by simp [bindT] at b
theorem bindVs_of (s : Same F H) : ∀ (ts : List Tg) {ds : List D} {vs : List V} {env env' : Env'} {σ : L2.St}, Reps K F H hd (frs ds) vs (fun _ => False) → bindTs ts ds env = some env' → ∃ σ', bindVs H ts vs σ = some σ' ∧ Bounds K F H hd ts ds σ σ'
  | [], [], vs, env, env', σ, r, b => by
    cases r
    exact ⟨σ, rfl, rfl⟩
  | [], _ :: _, _, _, _, _, _, b => by simp [bindTs] at b
  | _ :: _, [], _, _, _, _, _, b => by simp [bindTs] at b
  | t :: ts, d :: ds, vs, env, env', σ, r, b => by
    simp only [bindTs, Option.bind_eq_some_iff] at b
    obtain ⟨env1, b1, b2⟩ := b
    simp only [frs] at r
    obtain ⟨v, r', A, B, rfl, s1, s2, m, p, q⟩ := r
    obtain ⟨σ1, e1, e2⟩ := bindV_of s t (σ := σ) (p.sub s1) b1
    obtain ⟨σ2, e3, e4⟩ := bindVs_of s ts (σ := σ1) (q.sub s2) b2
    exact ⟨σ2, by simp only [bindVs, e1, Option.bind_some]; exact e3, σ1, e2, e4⟩
end
end
def TGv (K : Frag) (tg : Tg) : TG := fun v σ H Q => ∃ F hd d env env', Good K hd F H ∧ Rep K F H hd (fr d) v (fun _ => False) ∧ bindT tg d env = some env' ∧ ∀ σ', Bound K F H hd tg d σ σ' → Q σ' H
theorem pg_fro {X : Cx} {tg : Tg} {ex : Expr} (h : PG X ex (TGr tg)) : PG X ex (TGv X.K tg) := h.imp fun v σ H Q ⟨F, hd, d, env, env', g, r, b, k⟩ => by
  obtain ⟨σ', b1, b2⟩ := bindV_of g.sub tg (σ := σ) r b
  exact ⟨σ', b1, k σ' b2⟩
section
variable {K : Frag} {hd : Option Addr} {F H : Hp}
theorem EnvF.set {env : Env'} {σ : L2.St} {i : Nat} {d : D} {v : V} (h : EnvF K F H hd env σ) (r : Rep K F H hd (fr d) v fun _ => False) : EnvF K F H hd (env.set i (some d)) (σ.set i (some v)) := ⟨by simpa using h.len, fun j e q => by
  have l := h.len
  by_cases ij : i = j
  · subst ij
    by_cases hi : i < env.length
    · rw [List.getElem?_set_self hi] at q
      cases q
      exact ⟨v, by rw [List.getElem?_set_self (by omega)], r⟩
    · rw [List.getElem?_eq_none (by simpa using hi)] at q; cases q
  · rw [List.getElem?_set_ne ij] at q
    obtain ⟨u, e1, e2⟩ := h.get j e q
    exact ⟨u, by rw [List.getElem?_set_ne ij]; exact e1, e2⟩⟩
mutual
theorem EnvF.bound : ∀ (tg : Tg) {d : D} {env env' : Env'} {σ σ' : L2.St}, EnvF K F H hd env σ → bindT tg d env = some env' → Bound K F H hd tg d σ σ' → EnvF K F H hd env' σ'
  | .name i, d, env, env', σ, σ', h, b, ⟨v, r, e⟩ => by
    simp only [bindT, Option.some.injEq] at b
    subst b e
    exact h.set r
  | .tup ts, .tup ds, env, env', σ, σ', h, b, q => EnvF.bounds ts h (by simpa [bindT] using b) (by simpa [Bound] using q)
  | .tup ts, .non, _, _, _, _, _, b, _ => by simp [bindT] at b
  | .tup ts, .bl _, _, _, _, _, _, b, _ => by simp [bindT] at b
  | .tup ts, .int _, _, _, _, _, _, b, _ => by simp [bindT] at b
  | .tup ts, .str _, _, _, _, _, _, b, _ => by simp [bindT] at b
  | .tup ts, .hand, _, _, _, _, _, b, _ => by simp [bindT] at b
  | .tup ts, .scr _, _, _, _, _, _, b, _ => by simp [bindT] at b
  | .tup ts, .lst _ ds, env, env', σ, σ', h, b, q => EnvF.bounds ts h (by simpa [bindT] using b) (by simpa [Bound] using q)
  | .tup ts, .dik _ _, _, _, _, _, _, b, _ => by simp [bindT] at b
  | .tup ts, .dit _ _, _, _, _, _, _, b, _ => by simp [bindT] at b
theorem EnvF.bounds : ∀ (ts : List Tg) {ds : List D} {env env' : Env'} {σ σ' : L2.St}, EnvF K F H hd env σ → bindTs ts ds env = some env' → Bounds K F H hd ts ds σ σ' → EnvF K F H hd env' σ'
  | [], [], env, env', σ, σ', h, b, q => by
    simp only [bindTs, Option.some.injEq] at b
    simp only [Bounds] at q
    subst b q
    exact h
  | [], _ :: _, _, _, _, _, _, b, _ => by simp [bindTs] at b
  | _ :: _, [], _, _, _, _, _, b, _ => by simp [bindTs] at b
  | t :: ts, d :: ds, env, env', σ, σ', h, b, q => by
    simp only [bindTs, Option.bind_eq_some_iff] at b
    obtain ⟨env1, b1, b2⟩ := b
    simp only [Bounds] at q
    obtain ⟨σ1, q1, q2⟩ := q
    exact EnvF.bounds ts (EnvF.bound t h b1 q1) b2 q2
end
theorem wipe_set {i : Nat} {v : Option V} : ∀ {vs : List Nat} {σ : L2.St}, i ∈ vs → wipe (σ.set i v) vs = wipe σ vs
  | w :: vs, σ, h => by
    unfold wipe
    by_cases e : i = w
    · subst e
      by_cases m : i ∈ vs
      · rw [wipe_set m]
      · exact wipe_swap m
    · have m : i ∈ vs := (List.mem_cons.mp h).resolve_left e
      rw [wipe_set m]
where
  wipe_swap {i : Nat} {v : Option V} : ∀ {vs : List Nat} {σ : L2.St}, i ∉ vs → (wipe (σ.set i v) vs).set i none = (wipe σ vs).set i none
    | [], σ, _ => by simp [wipe, List.set_set]
    | w :: vs, σ, h => by
      have n1 : i ≠ w := fun e => h (by rw [e]; exact List.mem_cons_self)
      have n2 : i ∉ vs := fun m => h (List.mem_cons_of_mem _ m)
      unfold wipe
      rw [List.set_comm _ _ (Ne.symm n1), wipe_swap n2, List.set_comm _ _ n1]
mutual
theorem Bound.wipe : ∀ (tg : Tg) {d : D} {σ σ' : L2.St} {vs : List Nat}, tgIn tg vs = true → Bound K F H hd tg d σ σ' → L2.wipe σ' vs = L2.wipe σ vs
  | .name i, d, σ, σ', vs, t, ⟨v, _, e⟩ => by
    subst e
    exact wipe_set (by simpa [tgIn] using t)
  | .tup ts, .tup ds, σ, σ', vs, t, q => Bounds.wipe ts (by simpa [tgIn] using t) (by simpa [Bound] using q)
  | .tup ts, .non, _, _, _, _, b => by simp [Bound] at b
  | .tup ts, .bl _, _, _, _, _, b => by simp [Bound] at b
  | .tup ts, .int _, _, _, _, _, b => by simp [Bound] at b
  | .tup ts, .str _, _, _, _, _, b => by simp [Bound] at b
  | .tup ts, .hand, _, _, _, _, b => by simp [Bound] at b
  | .tup ts, .scr _, _, _, _, _, b => by simp [Bound] at b
  | .tup ts, .lst _ ds, σ, σ', vs, t, q => Bounds.wipe ts (by simpa [tgIn] using t) (by simpa [Bound] using q)
  | .tup ts, .dik _ _, _, _, _, _, b => by simp [Bound] at b
  | .tup ts, .dit _ _, _, _, _, _, b => by simp [Bound] at b
theorem Bounds.wipe : ∀ (ts : List Tg) {ds : List D} {σ σ' : L2.St} {vs : List Nat}, tgsIn ts vs = true → Bounds K F H hd ts ds σ σ' → L2.wipe σ' vs = L2.wipe σ vs
  | [], [], σ, σ', vs, t, q => by
    simp only [Bounds] at q
    rw [q]
  | [], _ :: _, _, _, _, _, b => by simp [Bounds] at b
  | _ :: _, [], _, _, _, _, b => by simp [Bounds] at b
  | t :: ts, d :: ds, σ, σ', vs, h, q => by
    simp only [tgsIn, Bool.and_eq_true] at h
    simp only [Bounds] at q
    obtain ⟨σ1, q1, q2⟩ := q
    rw [Bounds.wipe ts h.2 q2, Bound.wipe t h.1 q1]
end
theorem wipeE_length (env : Env') : ∀ vs : List Nat, (wipeE env vs).length = env.length
  | [] => rfl
  | v :: vs => by
    unfold wipeE
    rw [List.length_set, wipeE_length env vs]
theorem wipeE_some {env : Env'} {i : Nat} {d : D} : ∀ {vs : List Nat}, (wipeE env vs)[i]? = some (some d) → env[i]? = some (some d) ∧ i ∉ vs
  | [], h => ⟨h, by simp⟩
  | v :: vs, h => by
    unfold wipeE at h
    by_cases e : v = i
    · subst e
      by_cases hv : v < (wipeE env vs).length
      · rw [List.getElem?_set_self hv] at h; cases h
      · rw [List.getElem?_eq_none (by simpa using hv)] at h; cases h
    · rw [List.getElem?_set_ne e] at h
      obtain ⟨h1, h2⟩ := wipeE_some h
      exact ⟨h1, fun m => (List.mem_cons.mp m).elim (fun z => e z.symm) h2⟩
theorem EnvF.wipe {env : Env'} {σ : L2.St} (h : EnvF K F H hd env σ) (vs : List Nat) : EnvF K F H hd (wipeE env vs) (L2.wipe σ vs) := ⟨by rw [wipeE_length, wipe_length, h.len], fun i d e => by
  obtain ⟨e1, n⟩ := wipeE_some e
  obtain ⟨v, q, r⟩ := h.get i d e1
  exact ⟨v, by rw [wipe_out n]; exact q, r⟩⟩
end
end Wk
end sec_W6

section sec_W7
set_option Elab.async false
set_option linter.all false
set_option maxRecDepth 100000
set_option maxHeartbeats 4000000
namespace Wk
open PySem PySem.Spec PyProof.Rows L2
variable [Tab]
/-! ## what is walked -/
structure Feeds (K : Frag) (hd : Option Addr) (F : Hp) (J : L2.It) (xs : List D) : Prop where
  go : ∀ i F' H', Same F F' → Good K hd F' H' → i < xs.length → J.go i H'
  stop : ∀ i F' H', Same F F' → Good K hd F' H' → xs.length ≤ i → J.stop i H'
  yld : ∀ i F' H' v H'', Same F F' → Good K hd F' H' → J.yld i H' v H'' → ∀ d, xs[i]? = some d → ∃ F'', Ext K hd F' H' F'' H'' ∧ Rep K F'' H'' hd (fr d) v fun _ => False
theorem Same.lst {F F' H' : Hp} (s : Same F F') (g : Same F' H') {a : Addr} {o : HO} (h : F a = some o) : H' a = some o := g _ _ (s _ _ h)
theorem fr_fr : ∀ d : D, fr (fr d) = fr d := frfr
where
  frfr : ∀ d : D, fr (fr d) = fr d
    | .non => rfl | .bl _ => rfl | .int _ => rfl | .str _ => rfl | .hand => rfl | .scr _ => rfl
    | .tup xs => by simp only [Wk.fr, frs_frs xs]
    | .lst _ xs => by simp only [Wk.fr, frs_frs xs]
    | .dik _ xs => by simp only [Wk.fr, frk_frk xs]
    | .dit _ xs => by simp only [Wk.fr, frt_frt xs]
  frs_frs : ∀ ds : List D, frs (frs ds) = frs ds
    | [] => rfl
    | d :: ds => by simp only [frs, frfr d, frs_frs ds]
  frk_frk : ∀ ds : List (L2.Key × D), frk (frk ds) = frk ds
    | [] => rfl
    | (k, d) :: ds => by simp only [frk, frfr d, frk_frk ds]
  frt_frt : ∀ ds : List (List L2.Key × D), frt (frt ds) = frt ds
    | [] => rfl
    | (k, d) :: ds => by simp only [frt, frfr d, frt_frt ds]
theorem frs_frs (ds : List D) : frs (frs ds) = frs ds := fr_fr.frs_frs ds
section
variable {K : Frag} {hd : Option Addr} {F H : Hp}
theorem feeds_list {a : Addr} {vs : List V} {ds : List D} (h : F a = some (.lst vs)) (r : Reps K F H hd (frs ds) vs fun _ => False) : Feeds K hd F (Itl K a) (frs ds) where
  go := fun i F' H' s g hi => by
    have l := r.length
    exact ⟨vs, vs[i], SqL.of (Same.lst s g.sub h), List.getElem?_eq_getElem (by omega)⟩
  stop := fun i F' H' s g hi => ⟨vs, SqL.of (Same.lst s g.sub h), by rw [r.length]; exact hi⟩
  yld := fun i F' H' v H'' s g y d e => by
    obtain ⟨rfl, f⟩ := y
    obtain ⟨u, e1, e2⟩ := r.get e
    rw [f vs (SqL.of (Same.lst s g.sub h))] at e1
    cases e1
    refine ⟨F', Ext.refl g, ?_⟩
    have : fr d = d := by
      rw [frs_map] at e
      obtain ⟨d', _, rfl⟩ := (List.getElem?_map ▸ e : (ds[i]?).map fr = some d) |> Option.map_eq_some_iff.mp
      exact fr_fr d'
    rw [this]
    exact Rep.frozen e2 s
theorem feeds_tup {a : Addr} {vs : List V} {ds : List D} (h : F a = some (.tup vs)) (r : Reps K F H hd (frs ds) vs fun _ => False) : Feeds K hd F (Itt K a) (frs ds) where
  go := fun i F' H' s g hi => by
    have l := r.length
    exact ⟨vs, vs[i], SqT.of (Same.lst s g.sub h), List.getElem?_eq_getElem (by omega)⟩
  stop := fun i F' H' s g hi => ⟨vs, SqT.of (Same.lst s g.sub h), by rw [r.length]; exact hi⟩
  yld := fun i F' H' v H'' s g y d e => by
    obtain ⟨rfl, f⟩ := y
    obtain ⟨u, e1, e2⟩ := r.get e
    rw [f vs (SqT.of (Same.lst s g.sub h))] at e1
    cases e1
    refine ⟨F', Ext.refl g, ?_⟩
    have : fr d = d := by
      rw [frs_map] at e
      obtain ⟨d', _, rfl⟩ := (List.getElem?_map ▸ e : (ds[i]?).map fr = some d) |> Option.map_eq_some_iff.mp
      exact fr_fr d'
    rw [this]
    exact Rep.frozen e2 s
theorem feeds_range (lo : Int) (n : Nat) : Feeds K hd F (Itr lo n) ((List.range n).map fun i => D.int (lo + (i : Nat))) where
  go := fun i F' H' s g hi => by
    show i < n
    simpa using hi
  stop := fun i F' H' s g hi => by
    show n ≤ i
    simpa using hi
  yld := fun i F' H' v H'' s g y d e => by
    obtain ⟨rfl, rfl⟩ := y
    rw [List.getElem?_map] at e
    obtain ⟨j, e1, rfl⟩ := Option.map_eq_some_iff.mp e
    have : j = i := by
      have hl : i < (List.range n).length := by
        rcases Nat.lt_or_ge i (List.range n).length with h | h
        · exact h
        · rw [List.getElem?_eq_none h] at e1; cases e1
      rw [List.getElem?_eq_getElem hl, List.getElem_range] at e1
      exact (Option.some.inj e1).symm
    subst this
    exact ⟨F', Ext.refl g, rfl⟩
theorem feeds_rangeC (lo c : Int) (n : Nat) : Feeds K hd F (Itc lo c n) ((List.range n).map fun i => D.int (lo + (i : Nat) * c)) where
  go := fun i F' H' s g hi => by
    show i < n
    simpa using hi
  stop := fun i F' H' s g hi => by
    show n ≤ i
    simpa using hi
  yld := fun i F' H' v H'' s g y d e => by
    obtain ⟨h1, h2⟩ := y
    subst h1 h2
    have hl : i < n := by
      rcases Nat.lt_or_ge i n with h | h
      · exact h
      · rw [List.getElem?_eq_none (by simpa using h)] at e; cases e
    rw [List.getElem?_map, List.getElem?_range hl] at e
    cases e
    exact ⟨F', Ext.refl g, rfl⟩
theorem enm_get : ∀ {ds : List D} {n i : Nat} {d : D}, (enmFrom n ds)[i]? = some d → ∃ x, ds[i]? = some x ∧ d = .tup [.int ((n + i : Nat) : Int), x]
  | [], n, i, d, h => by simp [enmFrom] at h
  | x :: ds, n, 0, d, h => by
    simp only [enmFrom, List.getElem?_cons_zero, Option.some.injEq] at h
    exact ⟨x, rfl, h.symm⟩
  | x :: ds, n, i + 1, d, h => by
    simp only [enmFrom, List.getElem?_cons_succ] at h
    obtain ⟨y, e, r⟩ := enm_get (n := n + 1) h
    exact ⟨y, by simpa using e, by rw [r, show n + 1 + i = n + (i + 1) by omega]⟩
theorem enm_len : ∀ (ds : List D) (n : Nat), (enmFrom n ds).length = ds.length
  | [], n => rfl
  | d :: ds, n => by simp [enmFrom, enm_len ds (n + 1)]
theorem tup2_rep {T : Addr} {x y : D} {v w : V} {F' H' : Hp} (g : Good K hd F' H') (n : H' T = none) (r1 : Rep K F' H' hd (fr x) v fun _ => False) (r2 : Rep K F' H' hd (fr y) w fun _ => False) :
    ∃ F'', Ext K hd F' H' F'' (upd H' T (.tup [v, w])) ∧ Rep K F'' (upd H' T (.tup [v, w])) hd (fr (.tup [x, y])) (.ref T) fun _ => False := by
  have e := Ext.newF (o := .tup [v, w]) g n NT.tup
  refine ⟨_, e, ?_⟩
  simp only [Wk.fr, frs]
  exact ⟨T, [v, w], rfl, upd_same, v, [w], fun _ => False, fun _ => False, rfl, fun _ t => t, fun _ t => t, fun _ _ t => t, Rep.frozen r1 e.sf, Reps.one (Rep.frozen r2 e.sf)⟩
theorem feeds_enum {a : Addr} {vs : List V} {ds : List D} (h : F a = some (.lst vs)) (r : Reps K F H hd (frs ds) vs fun _ => False) : Feeds K hd F (Ite K a) (enmFrom 0 (frs ds)) where
  go := fun i F' H' s g hi => by
    have l := r.length
    rw [enm_len] at hi
    exact ⟨vs, vs[i], SqL.of (Same.lst s g.sub h), List.getElem?_eq_getElem (by omega)⟩
  stop := fun i F' H' s g hi => ⟨vs, SqL.of (Same.lst s g.sub h), by rw [r.length]; rw [enm_len] at hi; exact hi⟩
  yld := fun i F' H' v H'' s g y d e => by
    obtain ⟨T, x, rfl, n, rfl, f⟩ := y
    obtain ⟨z, e1, rfl⟩ := enm_get e
    obtain ⟨u, e2, e3⟩ := r.get e1
    rw [f vs (SqL.of (Same.lst s g.sub h))] at e2
    cases e2
    rw [Nat.zero_add]
    have : fr z = z := by
      rw [frs_map] at e1
      obtain ⟨d', _, rfl⟩ := (List.getElem?_map ▸ e1 : (ds[i]?).map fr = some z) |> Option.map_eq_some_iff.mp
      exact fr_fr d'
    exact tup2_rep g n (show Rep K F' H' hd (fr (.int (i : Nat))) (.int (i : Nat)) _ from rfl) (by rw [this]; exact Rep.frozen e3 s)
theorem zip_get : ∀ {xs ys : List D} {i : Nat} {d : D}, (zipD xs ys)[i]? = some d → ∃ x y, xs[i]? = some x ∧ ys[i]? = some y ∧ d = .tup [x, y]
  | [], ys, i, d, h => by simp [zipD] at h
  | x :: xs, [], i, d, h => by simp [zipD] at h
  | x :: xs, y :: ys, 0, d, h => by
    simp only [zipD, List.getElem?_cons_zero, Option.some.injEq] at h
    exact ⟨x, y, rfl, rfl, h.symm⟩
  | x :: xs, y :: ys, i + 1, d, h => by
    simp only [zipD, List.getElem?_cons_succ] at h
    obtain ⟨a, b, e1, e2, e3⟩ := zip_get h
    exact ⟨a, b, by simpa using e1, by simpa using e2, e3⟩
theorem zip_len : ∀ (xs ys : List D), (zipD xs ys).length = min xs.length ys.length
  | [], ys => by simp [zipD]
  | x :: xs, [] => by simp [zipD]
  | x :: xs, y :: ys => by
    simp only [zipD, List.length_cons, zip_len xs ys]
    omega
theorem frs_get {ds : List D} {i : Nat} {z : D} (e : (frs ds)[i]? = some z) : fr z = z := by
  rw [frs_map, List.getElem?_map] at e
  obtain ⟨d', _, rfl⟩ := Option.map_eq_some_iff.mp e
  exact fr_fr d'
theorem feeds_zipL {a b : Addr} {vs us : List V} {ds es : List D} (h : F a = some (.lst vs)) (h' : F b = some (.lst us)) (r : Reps K F H hd (frs ds) vs fun _ => False) (r' : Reps K F H hd (frs es) us fun _ => False) :
    Feeds K hd F (Itz K a b) (zipD (frs ds) (frs es)) where
  go := fun i F' H' s g hi => by
    have l := r.length
    have l' := r'.length
    rw [zip_len] at hi
    exact ⟨vs, us, vs[i], us[i], SqL.of (Same.lst s g.sub h), SqL.of (Same.lst s g.sub h'), List.getElem?_eq_getElem (by omega), List.getElem?_eq_getElem (by omega)⟩
  stop := fun i F' H' s g hi => ⟨vs, us, SqL.of (Same.lst s g.sub h), SqL.of (Same.lst s g.sub h'), by rw [r.length, r'.length]; rw [zip_len] at hi; omega⟩
  yld := fun i F' H' v H'' s g y d e => by
    obtain ⟨T, x, y, rfl, n, rfl, f, f'⟩ := y
    obtain ⟨z, z', e1, e2, rfl⟩ := zip_get e
    obtain ⟨u, e3, e4⟩ := r.get e1
    obtain ⟨u', e5, e6⟩ := r'.get e2
    rw [f vs (SqL.of (Same.lst s g.sub h))] at e3
    rw [f' us (SqL.of (Same.lst s g.sub h'))] at e5
    cases e3
    cases e5
    exact tup2_rep g n (by rw [frs_get e1]; exact Rep.frozen e4 s) (by rw [frs_get e2]; exact Rep.frozen e6 s)
theorem feeds_zipT {a b : Addr} {vs us : List V} {ds es : List D} (h : F a = some (.tup vs)) (h' : F b = some (.tup us)) (r : Reps K F H hd (frs ds) vs fun _ => False) (r' : Reps K F H hd (frs es) us fun _ => False) :
    Feeds K hd F (RZ.ItzT K a b) (zipD (frs ds) (frs es)) where
  go := fun i F' H' s g hi => by
    have l := r.length
    have l' := r'.length
    rw [zip_len] at hi
    exact ⟨vs, us, vs[i], us[i], SqT.of (Same.lst s g.sub h), SqT.of (Same.lst s g.sub h'), List.getElem?_eq_getElem (by omega), List.getElem?_eq_getElem (by omega)⟩
  stop := fun i F' H' s g hi => ⟨vs, us, SqT.of (Same.lst s g.sub h), SqT.of (Same.lst s g.sub h'), by rw [r.length, r'.length]; rw [zip_len] at hi; omega⟩
  yld := fun i F' H' v H'' s g y d e => by
    obtain ⟨T, x, y, rfl, n, rfl, f, f'⟩ := y
    obtain ⟨z, z', e1, e2, rfl⟩ := zip_get e
    obtain ⟨u, e3, e4⟩ := r.get e1
    obtain ⟨u', e5, e6⟩ := r'.get e2
    rw [f vs (SqT.of (Same.lst s g.sub h))] at e3
    rw [f' us (SqT.of (Same.lst s g.sub h'))] at e5
    cases e3
    cases e5
    exact tup2_rep g n (by rw [frs_get e1]; exact Rep.frozen e4 s) (by rw [frs_get e2]; exact Rep.frozen e6 s)
end
/-- a list or a tuple walked -/
def iSeq (K : Frag) (tl : TE) : TI := fun σ H R => tl σ H fun x H1 => ∃ a, x = .ref a ∧ (((∃ xs, SqL K H1 a xs) ∧ R (Itl K a) H1) ∨ ((∃ xs, SqT K H1 a xs) ∧ R (Itt K a) H1))
theorem pi_seq {X : Cx} {tg l : Expr} {tl : TE} (hl : PE X l tl) : PI X tg l (iSeq X.K tl) := by
  refine ⟨fun pins s σ H R I h => thn (hl.run pins s σ H _ I h) fun v s1 ⟨x, H1, I1, r1, q1⟩ => ?_⟩
  obtain ⟨a, rfl, q1⟩ := q1
  cases r1
  have fp : ∀ b ∈ [s1.heap.objs.size], FpOk X pins H1 b := fun b hb => by
    have e : b = s1.heap.objs.size := by simpa using hb
    rw [e]
    exact I1.fpOk (Nat.le_refl _) (I1.hok.fresh (Nat.le_refl _))
  have kp : ∀ o : Obj, Inv X pins σ H1 { s1 with heap := s1.heap.push o } := fun o => I1.kept (t' := s1.toks) fun b u q => Heap.get?_push_of_some _ q
  rcases q1 with ⟨⟨xs, hq⟩, q⟩ | ⟨⟨xs, hq⟩, q⟩
  · obtain ⟨its, rv, p, hz⟩ := I1.list hq
    exact wpAny_pyIter_list p.isList ⟨_, [s1.heap.objs.size], _, _, H1, rfl, kp _, turn_list a _, ⟨_, Heap.get?_push_size _ rfl, rfl, rfl⟩, fp, q⟩
  · obtain ⟨its, rv, p, hz⟩ := I1.tuple hq
    exact wpAny_pyIter_tuple (show s1.heap.IsTuple a its.toArray from p) ⟨_, [s1.heap.objs.size], _, _, H1, rfl, kp _, turn_tuple a _, ⟨_, Heap.get?_push_size _ rfl, rfl, rfl⟩, fp, q⟩
end Wk
end sec_W7

section sec_W8
set_option Elab.async false
set_option linter.all false
set_option maxRecDepth 100000
set_option maxHeartbeats 4000000
namespace Wk
open PySem PySem.Spec PyProof.Rows L2
variable [Tab]
section
variable {X : Cx} {G : Gam} {n : NB} {W : WX}
/-- what is walked, by evs -/
def TIv (X : Cx) (G : Gam) (W : WX) (k : It) (src : List E) : TI := fun σ H R => ∃ F hd env, Good X.K hd F H ∧ EnvF X.K F H hd env σ ∧
  evs G src env (fun ds => srcW k ds fun xs => ∀ J F' H', Ext X.K hd F H F' H' → Feeds X.K hd F' J xs → R J H') (RZ X.K X.mg hd F H fun c d H' => W c d σ H')
theorem gl_of {sc : Scope} (e : X.env.scope = sc) {x : Str} (h : gloB sc x = true) : Gl X x := by
  unfold gloB at h
  show X.env.scope.names.lookup x = some .globalImplicit
  rw [e]
  exact of_decide_eq_true h
theorem vis_of {sc : Scope} (e : X.env.scope = sc) {x : Str} (h : visB sc x = true) : Vis X.env.scope x := by
  unfold visB at h
  unfold Vis
  rw [e]
  cases q : sc.names.lookup x with
  | none => rw [q] at h; cases h
  | some k => cases k <;> simp_all
theorem callX_inv {sc : Scope} {x : Str} {it : Expr} {xs : List Expr} (h : callX sc x it = some xs) : ∃ p pos, it = .Call (.Name x p) xs [] pos ∧ gloB sc x = true := by
  unfold callX at h
  split at h
  · rename_i f ys pos
    split at h
    · rename_i hn
      cases h
      unfold nameIs at hn
      split at hn
      · simp only [Bool.and_eq_true, decide_eq_true_eq] at hn
        obtain ⟨rfl, hg⟩ := hn
        exact ⟨_, _, rfl, hg⟩
      · cases hn
    · cases h
  · cases h
theorem isTup_inv {t : Expr} (h : isTup t = true) : ∃ es k p, t = .Tuple es k p := by
  unfold isTup at h
  split at h
  · exact ⟨_, _, _, rfl⟩
  · cases h
theorem chks_len : ∀ {sc : Scope} {es : List E} {xs : List Expr}, chks G n X.N sc es xs = true → es.length = xs.length
  | _, [], [], _ => rfl
  | _, [], _ :: _, h => by simp [chks] at h
  | _, _ :: _, [], h => by simp [chks] at h
  | sc, e :: es, x :: xs, h => by
    simp only [chks, Bool.and_eq_true] at h
    simp [chks_len h.2.2]
theorem chks_star : ∀ {sc : Scope} {es : List E} {xs : List Expr}, chks G n X.N sc es xs = true → ∀ x ∈ xs, isStar x = false
  | _, [], [], _, x, m => nomatch m
  | _, [], _ :: _, h, _, _ => by simp [chks] at h
  | _, _ :: _, [], h, _, _ => by simp [chks] at h
  | sc, e :: es, x :: xs, h, y, m => by
    simp only [chks, Bool.and_eq_true, Bool.not_eq_true'] at h
    rcases List.mem_cons.mp m with rfl | m
    · exact h.1
    · exact chks_star h.2.2 y m
theorem len1 {α : Type} {l : List α} (h : l.length = 1) : ∃ a, l = [a] := by
  match l, h with
  | [a], _ => exact ⟨a, rfl⟩
theorem len2 {α : Type} {l : List α} (h : l.length = 2) : ∃ a b, l = [a, b] := by
  match l, h with
  | [a, b], _ => exact ⟨a, b, rfl⟩
theorem len3 {α : Type} {l : List α} (h : l.length = 3) : ∃ a b c, l = [a, b, c] := by
  match l, h with
  | [a, b, c], _ => exact ⟨a, b, c, rfl⟩
theorem pi_seqV {e : E} {t it : Expr} (pe : PE X it (TV X G W e)) : PI X t it (TIv X G W .seq [e]) := by
  refine (pi_seq pe).imp fun σ H R ⟨F, hd, env, g, en, q⟩ => ?_
  simp only [evs] at q
  refine ⟨F, hd, env, g, en, ev_mono G e (fun d q v F' H' T x o r => ?_) (fun _ z => z) q⟩
  obtain ⟨xs, e1, q⟩ := q
  have s := x.good.sub
  cases d with
  | tup ds =>
    cases e1
    obtain ⟨a, vs, rfl, hp, rs⟩ := r
    exact ⟨a, rfl, .inr ⟨⟨vs, SqT.of (s _ _ hp)⟩, q _ _ _ (x.fz g.hand o) (feeds_tup (fz_sub s _ _ hp) (Reps.fz (H1 := H') rs s))⟩⟩
  | lst b ds =>
    cases e1
    cases b with
    | false =>
      obtain ⟨a, vs, rfl, hp, rs⟩ := r
      exact ⟨a, rfl, .inl ⟨⟨vs, SqL.of (s _ _ hp)⟩, q _ _ _ (x.fz g.hand o) (feeds_list (fz_sub s _ _ hp) (Reps.fz (H1 := H') rs s))⟩⟩
    | true =>
      obtain ⟨a, vs, rfl, ta, hp, rs⟩ := r
      exact ⟨a, rfl, .inl ⟨⟨vs, SqL.of hp⟩, q _ _ _ (x.fz g.hand o) (feeds_list (F := fz F' H' T) (by rw [fz_in ta]; exact hp) (Reps.fz (H1 := H') (rs.sub fun _ t => t.1) s))⟩⟩
  | _ => cases e1
theorem lstF {K : Frag} {hd : Option Addr} {F H : Hp} {b : Bool} {ds : List D} {v : V} {T : ASet} (s : Same F H) (r : Rep K F H hd (.lst b ds) v T) : ∃ a vs, v = .ref a ∧ H a = some (.lst vs) ∧ fz F H T a = some (.lst vs) ∧ Reps K (fz F H T) H hd (frs ds) vs fun _ => False := by
  cases b with
  | false =>
    obtain ⟨a, vs, rfl, hp, rs⟩ := r
    exact ⟨a, vs, rfl, s _ _ hp, fz_sub s _ _ hp, Reps.fz rs s⟩
  | true =>
    obtain ⟨a, vs, rfl, ta, hp, rs⟩ := r
    exact ⟨a, vs, rfl, hp, by rw [fz_in ta]; exact hp, Reps.fz (rs.sub fun _ t => t.1) s⟩
theorem pi_src (x : XOk X G n) {sc : Scope} (es : X.env.scope = sc) {k : It} {src : List E} {t it : Expr} {xs : List Expr} (hn : srcN k src.length = true) (hx : srcX sc k t it = some xs) (c : chks G n X.N sc src xs = true) (pa : PA X xs (TVs X G W src))
    (pe : ∀ e y, src = [e] → xs = [y] → PE X y (TV X G W e)) : PI X t it (TIv X G W k src) := by
  have hl := chks_len c
  have st := chks_star c
  cases k with
  | seq =>
    simp only [srcX] at hx
    split at hx
    · cases hx
    · cases hx
      simp only [srcN, beq_iff_eq] at hn
      obtain ⟨e, rfl⟩ := len1 hn
      exact pi_seqV (pe e it rfl rfl)
  | rng =>
    obtain ⟨p, pos, rfl, hg⟩ := callX_inv hx
    simp only [srcN, Bool.or_eq_true, beq_iff_eq] at hn
    rcases hn with hn | hn
    · obtain ⟨e, rfl⟩ := len1 hn
      obtain ⟨y, rfl⟩ := len1 (l := xs) (by rw [← hl]; exact hn)
      refine (pi_range1 (gl_of es hg) (x.free _ (by decide)) pa (by rw [starEach_of (st y (by simp))]; rfl)).imp fun σ H R ⟨F, hd, env, gd, en, q⟩ => ⟨F, hd, env, gd, en, ?_⟩
      simp only [evs] at q ⊢
      refine ev_mono G e (fun d q v F' H' T x o r => ?_) (fun _ z => z) q
      cases d with
      | int m =>
        obtain ⟨v, rfl, r'⟩ := r.inv1
        rw [(show v = V.int m from r')]
        obtain ⟨q1, q2, q3⟩ := q
        have fd := feeds_range (K := X.K) (hd := hd) (F := F') 0 m.toNat
        simp only [Int.zero_add] at fd
        exact ⟨m, rfl, q1, q2, q3 _ _ _ x fd⟩
      | _ => exact (show False from q).elim
    · obtain ⟨e, e', rfl⟩ := len2 hn
      obtain ⟨y, y', rfl⟩ := len2 (l := xs) (by rw [← hl]; exact hn)
      have s2 := starEach_of (st y' (by simp)) [] X.env
      have s1 := starEach_of (st y (by simp)) [y'] X.env
      refine (pi_range2 (gl_of es hg) (x.free _ (by decide)) pa (by rw [s1, s2]; rfl) (by rw [s2]; rfl)).imp fun σ H R ⟨F, hd, env, gd, en, q⟩ => ⟨F, hd, env, gd, en, ?_⟩
      simp only [evs] at q ⊢
      refine ev_mono G e (fun d q0 => ev_mono G e' (fun d' q v F' H' T x o r => ?_) (fun _ z => z) q0) (fun _ z => z) q
      cases d <;> cases d' <;> first
        | exact (show False from q).elim
        | (rename_i a b
           obtain ⟨v, u, _, _, rfl, _, _, _, r1, r2⟩ := r.inv2
           rw [(show v = V.int a from r1), (show u = V.int b from r2)]
           exact ⟨a, b, rfl, q.1, q.2 _ _ _ x (feeds_range a (b - a).toNat)⟩)
  | rng3 =>
    obtain ⟨p, pos, rfl, hg⟩ := callX_inv hx
    simp only [srcN, beq_iff_eq] at hn
    obtain ⟨e1, e2, e3, rfl⟩ := len3 hn
    obtain ⟨y1, y2, y3, rfl⟩ := len3 (l := xs) (by rw [← hl]; exact hn)
    have s3 := starEach_of (st y3 (by simp)) [] X.env
    have s2 := starEach_of (st y2 (by simp)) [y3] X.env
    have s1 := starEach_of (st y1 (by simp)) [y2, y3] X.env
    refine (pi_range3 (gl_of es hg) (x.free _ (by decide)) pa (by rw [s1]) (by rw [s2, s3]; rfl)).imp fun σ H R ⟨F, hd, env, gd, en, q⟩ => ⟨F, hd, env, gd, en, ?_⟩
    simp only [evs] at q ⊢
    refine ev_mono G e1 (fun d1 q0 => ev_mono G e2 (fun d2 q1 => ev_mono G e3 (fun d3 q v F' H' T x o r => ?_) (fun _ z => z) q1) (fun _ z => z) q0) (fun _ z => z) q
    cases d1 <;> cases d2 <;> cases d3 <;> first
      | exact (show False from q).elim
      | (rename_i a b c
         obtain ⟨v1, rr, _, _, rfl, _, _, _, r1, r'⟩ := r
         obtain ⟨v2, v3, _, _, rfl, _, _, _, r2, r3⟩ := r'.inv2
         rw [(show v1 = V.int a from r1), (show v2 = V.int b from r2), (show v3 = V.int c from r3)]
         obtain ⟨n, hc, q⟩ := q
         exact ⟨a, b, c, n, rfl, hc, q _ _ _ x (feeds_rangeC a c n)⟩)
  | enm =>
    simp only [srcX] at hx
    split at hx
    · rename_i ht
      obtain ⟨te, tk, tp, rfl⟩ := isTup_inv ht
      obtain ⟨p, pos, rfl, hg⟩ := callX_inv hx
      simp only [srcN, beq_iff_eq] at hn
      obtain ⟨e, rfl⟩ := len1 hn
      obtain ⟨y, rfl⟩ := len1 (l := xs) (by rw [← hl]; exact hn)
      refine (pi_enum (gl_of es hg) (x.free _ (by decide)) pa (by rw [starEach_of (st y (by simp))]; rfl)).imp fun σ H R ⟨F, hd, env, gd, en, q⟩ => ⟨F, hd, env, gd, en, ?_⟩
      simp only [evs] at q ⊢
      refine ev_mono G e (fun d q v F' H' T x o r => ?_) (fun _ z => z) q
      cases d with
      | lst b ds =>
        obtain ⟨v, rfl, r'⟩ := r.inv1
        obtain ⟨a, vs, rfl, hp, hf, rs⟩ := lstF x.good.sub r'
        exact ⟨a, vs, rfl, SqL.of hp, q _ _ _ (x.fz gd.hand o) (feeds_enum hf rs)⟩
      | _ => exact (show False from q).elim
    · cases hx
  | zip =>
    simp only [srcX] at hx
    split at hx
    · rename_i ht
      obtain ⟨te, tk, tp, rfl⟩ := isTup_inv ht
      obtain ⟨p, pos, rfl, hg⟩ := callX_inv hx
      simp only [srcN, beq_iff_eq] at hn
      obtain ⟨e, e', rfl⟩ := len2 hn
      obtain ⟨y, y', rfl⟩ := len2 (l := xs) (by rw [← hl]; exact hn)
      have s2 := starEach_of (st y' (by simp)) [] X.env
      have s1 := starEach_of (st y (by simp)) [y'] X.env
      refine (RZ.pi_zipA (gl_of es hg) (x.free _ (by decide)) pa (by rw [s1]) (by rw [s2]; rfl)).imp fun σ H R ⟨F, hd, env, gd, en, q⟩ => ⟨F, hd, env, gd, en, ?_⟩
      simp only [evs] at q ⊢
      refine ev_mono G e (fun d q0 => ev_mono G e' (fun d' q v F' H' T x o r => ?_) (fun _ z => z) q0) (fun _ z => z) q
      have s := x.good.sub
      cases d <;> cases d' <;> first
        | exact (show False from q).elim
        | skip
      · rename_i ds es'
        obtain ⟨v, u, A, B, rfl, sA, sB, m, r1, r2⟩ := r.inv2
        obtain ⟨a, vs, rfl, hp, rs⟩ := r1
        obtain ⟨b, us, rfl, hp', rs'⟩ := r2
        refine ⟨a, b, vs, us, rfl, .inr ⟨SqT.of (s _ _ hp), SqT.of (s _ _ hp'), q _ _ _ (x.fz gd.hand o) (feeds_zipT (F := fz F' H' T) (H := H') (fz_sub s _ _ hp) (fz_sub s _ _ hp') (Reps.fz (rs.sub sA) s) (Reps.fz (rs'.sub sB) s))⟩⟩
      · rename_i o1 ds o2 es'
        obtain ⟨v, u, A, B, rfl, sA, sB, m, r1, r2⟩ := r.inv2
        obtain ⟨a, vs, rfl, hp, hf, rs⟩ := lstF s (r1.sub sA)
        obtain ⟨b, us, rfl, hp', hf', rs'⟩ := lstF s (r2.sub sB)
        exact ⟨a, b, vs, us, rfl, .inl ⟨SqL.of hp, SqL.of hp', q _ _ _ (x.fz gd.hand o) (feeds_zipL hf hf' rs rs')⟩⟩
    · cases hx
end
end Wk
end sec_W8

section sec_W9
set_option Elab.async false
set_option linter.all false
set_option maxRecDepth 100000
set_option maxHeartbeats 4000000
namespace Wk
open PySem PySem.Spec PyProof.Rows L2
variable [Tab]
/-! ## comprehensions -/
abbrev W0 : WX := fun _ _ _ _ => False
theorem truth_ok {K : Frag} {hd : Option Addr} {F H : Hp} {d : D} {v : V} {T : ASet} {b : Bool} (s : Same F H) (r : Rep K F H hd d v T) (h : truthD d = some b) : TruV K v H b := by
  cases d with
  | non => rw [(show v = V.non from r)]; cases h; rfl
  | bl c => rw [(show v = V.bl c from r)]; cases h; rfl
  | int i => rw [(show v = V.int i from r)]; cases h; rfl
  | tup xs =>
    obtain ⟨a, vs, rfl, q, p⟩ := r.tupH s
    cases h
    refine .inr (.inl ⟨vs, SqT.of q, ?_⟩)
    have := p.length
    cases xs <;> cases vs <;> simp_all
  | lst o xs =>
    obtain ⟨a, vs, rfl, q, p⟩ := r.lstH s
    cases h
    refine .inl ⟨vs, SqL.of q, ?_⟩
    have := p.length
    cases xs <;> cases vs <;> simp_all
  | dik o xs =>
    obtain ⟨a, vs, rfl, q, p⟩ := r.dikH s
    cases h
    refine .inr (.inr ⟨vs, q, ?_⟩)
    have := p.length
    cases xs <;> cases vs <;> simp_all
  | str s => cases h
  | hand => cases h
  | scr ns => cases h
  | dit o xs => cases h
theorem Ext.upd {K : Frag} {hd : Option Addr} {F0 H0 F H : Hp} {D : Addr} {o : HO} (e : Ext K hd F0 H0 F H) (g : HandOk K hd F0 H0) (n : FN H0 D) (f : F D = none) {u0 : HO} (hu : H D = some u0) (nu : noTup u0 = true) : Ext K hd F0 H0 F (L2.upd H D o) := by
  have nh : hd ≠ some D := fun z => by
    obtain ⟨u, q, t⟩ := g.there z
    exact n u q t
  refine ⟨e.sf, ⟨fun a u q => ?_, fun a z => ?_, Tabs.write e.good.tab hu nu, e.good.fnt⟩, fun a u m q t => ?_, e.nof, fun a c r z q => ?_⟩
  · rw [upd_ne (ne_of_none q f)]
    exact e.good.sub a u q
  · obtain ⟨h1, c, cs, i, b, m, k, h2, r⟩ := e.good.hand a z
    have : a ≠ D := fun y => nh (by rw [← y]; exact z)
    exact ⟨h1, c, cs, i, b, m, k, by rw [upd_ne this]; exact h2, r⟩
  · rw [upd_ne (show a ≠ D from fun z => n u (z ▸ q) t)]
    exact e.keep a u m q t
  · rw [upd_ne (fun y => nh (by rw [← y]; exact z))]
    exact e.hc a c r z q
theorem wipe_idem (σ : L2.St) (vs : List Nat) : wipe (wipe σ vs) vs = wipe σ vs := by
  refine List.ext_getElem? fun i => ?_
  by_cases m : i ∈ vs
  · rw [wipe_at m, wipe_at m, wipe_length]
  · rw [wipe_out m]
where
  wipe_at {σ : L2.St} {i : Nat} : ∀ {vs : List Nat}, i ∈ vs → (wipe σ vs)[i]? = if i < σ.length then some none else none
    | v :: vs, h => by
      unfold wipe
      by_cases e : v = i
      · subst e
        by_cases hv : v < σ.length
        · rw [if_pos hv, List.getElem?_set_self (by rw [wipe_length]; exact hv)]
        · rw [if_neg hv, List.getElem?_eq_none (by rw [List.length_set, wipe_length]; omega)]
      · rw [List.getElem?_set_ne e]
        exact wipe_at ((List.mem_cons.mp h).resolve_left fun z => e z.symm)
/-- a comprehension's test -/
def TCv (X : Cx) (G : Gam) (c : Option E) : TT := fun σ H Q => ∃ F hd env, Good X.K hd F H ∧ EnvF X.K F H hd env σ ∧ evC G c env (fun b => ∀ F' H', Ext X.K hd F H F' H' → Q b H')
section
variable {X : Cx} {G : Gam} {n : NB} {W : WX}
theorem lc_read {own : List (Str × Nat)} {tg : Tg} {k : It} {src : List E} {c : Option E} {elt : E} (ht : tgIn tg (own.map (·.2)) = true) {σ : L2.St} {H : Hp} {Q : VK} (h : TV X G W (.lc own tg k src c elt) σ H Q) :
    tLc (TIv X G W k src) (TGv X.K tg) (TCv X G c) (TV X G W0 elt) (own.map (·.2)) σ H Q := by
  obtain ⟨F, hd, env, g, en, q⟩ := h
  simp only [ev] at q
  refine ⟨F, hd, env, g, en, evs_mono G src (fun ds q => srcW_mono (fun xs ⟨hl, q⟩ J F1 H1 x1 fd D nD => ?_) q) (fun _ z => z) q⟩
  have n0 : FN H D := x1.back (FN.of nD)
  have f1 : F1 D = none := x1.good.sub.free nD
  have nh : ∀ {F' H' : Hp} {u : HO}, H' D = some u → HandOk X.K hd F' H' → hd ≠ some D := fun _ _ z => by
    obtain ⟨u, q, t⟩ := g.hand.there z
    exact n0 u q t
  refine ⟨fun i m H' => m = xs.length - i ∧ i ≤ xs.length ∧ ∃ F' T acc vs, Ext X.K hd F H F' H' ∧ Same F1 F' ∧ F' D = none ∧ H' D = some (.lst vs) ∧ Own F' H H' T ∧ ¬ T D ∧ Reps X.K F' H' hd acc vs T ∧ vs.length ≤ i ∧
    compW (fun x o => ∃ env', bindT tg x (wipeE env (own.map (·.2))) = some env' ∧ evC G c env' (fun b => if b = true then ev G elt env' (fun y => o (some y)) (fun _ => False) else o none)) (xs.drop i) (fun r => R1 X.K hd F H Q (.lst true (acc ++ r))),
    ⟨xs.length, rfl, Nat.zero_le _, F1, fun _ => False, [], [], x1.trans (Ext.newO x1.good nD), Same.refl _, f1, upd_same, Own.none, fun t => t, rfl, Nat.le_refl _, q⟩, ?_⟩
  rintro i m H' ⟨rfl, hi, F', T, acc, vs, e, sf, fD, hD, o, nT, rp, lv, q⟩
  by_cases hlt : i < xs.length
  · refine .inr ⟨fd.go i F' H' sf e.good hlt, _, fun H'' w => ⟨xs.length - (i + 1), by omega, w⟩, fun v H'' y => ?_⟩
    have hget : xs[i]? = some xs[i] := List.getElem?_eq_getElem hlt
    obtain ⟨F2, e2, rv⟩ := fd.yld i F' H' v H'' sf e.good y _ hget
    rw [List.drop_eq_getElem_cons hlt] at q
    obtain ⟨env', b, q⟩ := q
    have x2 := e.trans e2
    have hD2 := e2.keep D _ (nh hD e.good.hand) hD NT.lst
    have en2 : EnvF X.K F2 H'' hd (wipeE env (own.map (·.2))) (wipe σ (own.map (·.2))) := (en.later (H1 := H'') x2.sf).wipe _
    refine ⟨F2, hd, xs[i], _, env', e2.good, rv, b, fun σ2 bd => ⟨by rw [Bound.wipe tg ht bd, wipe_idem], F2, hd, env', e2.good, EnvF.bound tg en2 b bd, evC_mono G c (fun bb q F3 H3 e3 => ?_) q⟩⟩
    have x3 := x2.trans e3
    have hD3 := e3.keep D _ (nh hD2 e2.good.hand) hD2 NT.lst
    have fD3 : F3 D = none := e3.nof D _ hD2 NT.lst (e2.nof D _ hD NT.lst fD)
    have sf3 := (sf.trans e2.sf).trans e3.sf
    have o3 : Own F3 H H3 T := (o.later g.hand e2).later g.hand e3
    have rp3 : Reps X.K F3 H3 hd acc vs T := (rp.later o g.hand e2).later (o.later g.hand e2) g.hand e3
    cases bb with
    | true =>
      simp only [if_true] at q
      refine iteT ?_
      refine ⟨F3, hd, env', e3.good, (EnvF.bound tg en2 b bd).later e3.sf, ev_mono G elt (fun y q v' F4 H4 T4 e4 o4 r4 => ?_) (fun _ z => z.elim) q⟩
      have hD4 := e4.keep D _ (nh hD3 e3.good.hand) hD3 NT.lst
      have fD4 := e4.nof D _ hD3 NT.lst fD3
      have nT4 : ¬ T4 D := fun t => by
        exact (o4 D t).1 _ hD3 NT.lst
      have o4' : Own F4 H H4 T := o3.later g.hand e4
      have rp4 : Reps X.K F4 H4 hd acc vs T := rp3.later o3 g.hand e4
      refine ⟨vs, hD4, by rw [sizeLine_eq]; omega, ?_⟩
      refine ⟨rfl, hlt, F4, fun a => T a ∨ T4 a, acc ++ [y], vs ++ [v'], (x3.trans e4).upd g.hand n0 fD4 hD4 rfl, sf3.trans e4.sf, fD4, upd_same, fun a t => ?_, fun t => t.elim nT nT4, ?_, by simp; omega, ?_⟩
      · have ne : a ≠ D := fun z => t.elim (fun t => nT (z ▸ t)) (fun t => nT4 (z ▸ t))
        rw [upd_ne ne]
        exact t.elim (o4' a) (Own.first x3 o4 a)
      · have k : ∀ {T' : ASet}, ¬ T' D → ∀ a u, T' a → H4 a = some u → L2.upd H4 D (.lst (vs ++ [v'])) a = some u := fun {T'} nn a u t q => by
          have ne : a ≠ D := fun z => nn (by rw [← z]; exact t)
          rw [upd_ne ne]; exact q
        exact Reps.append (Reps.mono (Same.refl _) rp4 (k nT) fun _ t => t) (Reps.mono (Same.refl _) (Reps.one r4) (k nT4) fun _ t => t) (Own.apart o3 o4)
      · simpa using q
    | false =>
      simp only [Bool.false_eq_true, if_false] at q
      refine iteF ?_
      exact ⟨rfl, hlt, F3, T, acc, vs, x3, sf3, fD3, hD3, o3, nT, rp3, by omega, by simpa using q⟩
  · have hi' : i = xs.length := by omega
    subst hi'
    refine .inl ⟨fd.stop _ F' H' sf e.good (Nat.le_refl _), ?_⟩
    rw [List.drop_length] at q
    have q' : R1 X.K hd F H Q (.lst true (acc ++ [])) := q
    rw [List.append_nil] at q'
    refine q' _ F' H' (fun a => T a ∨ a = D) e (fun a t => ?_) ⟨D, vs, rfl, .inr rfl, hD, rp.sub fun a t => ⟨.inl t, fun z => nT (z ▸ t)⟩⟩
    rcases t with t | rfl
    · exact o a t
    · exact ⟨n0, fD, _, hD, rfl⟩
theorem fold_of {it : Expr} (h : isSet it = false) (env : Env) : ∀ x, foldedSetIterable it env x = pure x := by
  intro x
  cases it <;> first | rfl | (simp [isSet] at h)
theorem srcX_set {sc : Scope} {k : It} {t it : Expr} {xs : List Expr} (h : srcX sc k t it = some xs) : isSet it = false := by
  cases it <;> first | rfl | skip
  cases k <;> simp [srcX, isSet, callX] at h
theorem ownSc_blk {s : Shared} {H : Hp} {scope : Scope} {cl : List (Str × Addr)} {C : Addr} {fp : List Addr} (nd : X.N.Nodup) (calm : X.calm = true) : OwnSc (X.blk s H scope (compEnvC scope cl C X.env) fp) scope where
  nd := nd
  calm := calm
  own := fun x h => by
    unfold locB at h
    cases q : scope.names.lookup x with
    | none => rw [q] at h; cases h
    | some kd =>
      rw [q] at h
      have lk : ∀ kd, kd ≠ .free → scope.names.lookup x = some kd → (relS scope X.env.scope).names.lookup x = some kd := fun kd hk q => lookup_relS_keep (sc := X.env.scope) hk q
      cases kd with
      | «local» => exact ⟨.inl (lk _ (by decide) q), .inr (lk _ (by decide) q)⟩
      | cell =>
        refine ⟨.inr (lk _ (by decide) q), .inl ?_⟩
        show (scope.names.lookup x == some .cell) = true
        rw [q]; rfl
      | free => cases h
      | globalExplicit => cases h
      | globalImplicit => cases h
theorem XOk.blk (x : XOk X G n) (s : Shared) (H : Hp) (scope : Scope) (env : Env) (fp : List Addr) (hq : (X.blk s H scope env fp).env.qual = X.env.qual) (hc : (X.blk s H scope env fp).env.code = X.env.code) : XOk (X.blk s H scope env fp) G n := ⟨x.nd, x.calm, x.ub, x.free, x.con, fun f h g => ⟨(x.call f h g).ex⟩, fun f h g => ⟨(x.callG f h g).ex⟩, x.gu, x.room, fun h => ⟨(x.lam h).room, by rw [hq, hc]; exact (x.lam h).code, fun f hf => by
  obtain ⟨a, g, pg, bg, sg, dV, kV, doc, pm, cdv, ct, oc, an, od, osl, Ng, TT, h1, h2, h3, h4, h5, h6, h7, h8, h9, h10, h11, h12⟩ := (x.lam h).said f hf
  exact ⟨a, g, pg, bg, sg, dV, kV, doc, pm, cdv, ct, oc, an, od, osl, Ng, TT, h1, h2, h3, h4, h5, h6, h7, h8, h9, h10, by rw [hq]; exact h11, h12⟩⟩⟩
end
end Wk
end sec_W9

section sec_W9b
set_option Elab.async false
set_option linter.all false
set_option maxRecDepth 100000
set_option maxHeartbeats 4000000
namespace Wk
open PySem PySem.Spec PyProof.Rows L2
variable [Tab]
theorem R1.later {K : Frag} {hd : Option Addr} {F H F1 H1 : Hp} {Q : V → Hp → Prop} {d : D} (x : Ext K hd F H F1 H1) (q : R1 K hd F H Q d) : R1 K hd F1 H1 Q d := fun v F2 H2 T2 x2 o2 r2 => q v F2 H2 T2 (x.trans x2) (Own.first x o2) r2
/-- a def that gets a lambda -/
theorem said_pe {X : Cx} {G : Gam} {n : NB} {W : WX} {f : Nat} {e : E} {sc : Scope} {g : Str} {p1 lp p2 : Pos} {body : Expr} {scope : Scope} (es : X.env.scope = sc) (x : XOk X G n)
    (c : chk G n X.N sc (.said f e) (.Call (.Name g p1) [.Lambda ⟨[], [], none, [], [], none, []⟩ body scope lp] [] p2) = true)
    (hb : ∀ (A : Around) (outer : List Env) (s : Shared) (H : Hp) (E : XK) (f' c' : Addr), XOk (LamX.lamCx X A outer s H E scope f' c') G (n.1, false, false) → chk G (n.1, false, false) X.N scope e body = true →
      PE (LamX.lamCx X A outer s H E scope f' c') body (TV (LamX.lamCx X A outer s H E scope f' c') G (fun c d _ H => E c d H) e)) :
    PE X (.Call (.Name g p1) [.Lambda ⟨[], [], none, [], [], none, []⟩ body scope lp] [] p2) (TV X G W (.said f e)) := by
  simp only [chk, Bool.and_eq_true, decide_eq_true_eq] at c
  obtain ⟨⟨hn, hf, rfl⟩, ⟨hg, hk⟩, hl, hc⟩ := c
  obtain ⟨room, ⟨cc, P, TB, hcode, hmT, hu⟩, said⟩ := x.lam hn
  obtain ⟨a, g, pg, bg, sg, dV, kV, doc, pm, cdv, ct, oc, an, od, osl, Ng, TT, h1, h2, h3, h4, h5, h6, h7, h8, h9, h10, h11, h12⟩ := said f hf
  have hdb : (G.snm f == ("__debug__" : Str)) = false := by
    unfold okName at hk
    simp only [Bool.and_eq_true, Bool.not_eq_true'] at hk
    exact hk.1.1
  refine (LamX.pe_lamcall (T := Tab.T) (TT := TT) (k := G.lev) (t := fun E => TV X G (fun c d _ H => E c d H) e) (gl_of es hg) h1 h2 h3 h4 h5 h6 h7 h8 h11 TB hcode hmT hu room (LamX.lamS_by (by rw [es]; exact hl)) rfl (fun _ _ _ _ _ => rfl)
    (fun A outer s H E f' c' hr => hb A outer s H E f' c' ⟨x.nd, rfl, by have := hr.un; show (A.deeper _).units + 100 < cLine; omega, x.free, x.con, fun f h g => ⟨(x.call f h g).ex⟩, fun f h g => ⟨(x.callG f h g).ex⟩, (fun h => by cases h), hr, fun h => by cases h⟩ hc) hdb h9 h10).imp fun σ H Q ⟨F, hd, env, gd, en, q⟩ => ⟨gd.tab, fun H1 eN T1 => ?_⟩
  simp only [ev] at q
  have good1 : Good X.K hd F H1 := ⟨fun a o h => eN a o (gd.sub a o h) (gd.fnt a o h), fun a e => by
    obtain ⟨h1, c, cs, i, b, m, k, h2, h3⟩ := gd.hand a e
    exact ⟨h1, c, cs, i, b, m, k, eN a _ h2 NT.lst, h3⟩, T1, gd.fnt⟩
  have x1 : Ext X.K hd F H F H1 := ⟨Same.refl F, good1, fun a o _ h t => eN a o h t, fun a o _ _ f => f, fun a c r _ h => ⟨r, eN a _ h NT.lst⟩⟩
  exact h12 _ H1 Q F hd good1 fun Ec Qv ok er => ⟨F, hd, env, good1, en.later (Same.refl F), ev_mono G e (fun d q v F' H' T x o r => ok d v F' H' T x o r (ms_mono (fun d q => q.later x1) q)) (fun z q c dx F' H' x er' => er z c dx F' H' x er' (ms_mono (fun d q => q.later x1) q)) q⟩
end Wk
end sec_W9b

section sec_W9c
set_option Elab.async false
set_option linter.all false
set_option maxRecDepth 100000
set_option maxHeartbeats 8000000
namespace Wk
open PySem PySem.Spec PyProof.Rows L2
variable [Tab]
/-! ## a < b < c < d -/
section
variable {X : Cx} {a b c d : Expr} {ta tb tc td : TE} {pos : Pos}
def tChain3 (r r' r'' : R2) (ta tb tc td : TE) : TE := fun σ H Q => ta σ H fun x H1 => tb σ H1 fun y H2 => r x y H2 fun z H3 => ∃ k, z = .bl k ∧
  (if k = true then tc σ H3 fun w' H4 => r' y w' H4 fun z H5 => ∃ k, z = .bl k ∧ (if k = true then td σ H5 fun u' H6 => r'' w' u' H6 Q else Q (.bl false) H5) else Q (.bl false) H3)
theorem pe_chain3 {op op' op'' : CmpOp} {r r' r'' : R2} (ho : OpR X (compareOp op) r) (ho' : OpR X (compareOp op') r') (ho'' : OpR X (compareOp op'') r'') (ha : PE X a ta) (hb : PE X b tb) (hc : PE X c tc) (hd : PE X d td)
    (hm : lastMarks [op, op', op''] [b, c, d] = false) : PE X (.Compare a [op, op', op''] [b, c, d] pos) (tChain3 r r' r'' ta tb tc td) := by
  refine ⟨fun pins s σ H Q I h => ?_⟩
  refine Compare_chain (thn (ha.run pins s σ H _ I h) fun v s1 ⟨x, H1, I1, r1, q1⟩ => chain_link (thn (hb.run pins s1 σ H1 _ I1 q1) fun u s2 ⟨y, H2, I2, r2, q2⟩ =>
    thn (ho pins s2 σ H2 x y v u _ I2 r1 r2 q2) fun e s3 ⟨z, H3, I3, r3, k, e, q3⟩ => ?_)) hm
  subst e
  cases r3
  refine wpAny_truthy_bool ?_
  cases k with
  | false => exact ite_ff ⟨.bl false, H3, I3, rfl, q3⟩
  | true =>
    refine ite_tt (chain_link (thn (hc.run pins s3 σ H3 _ I3 q3) fun w' s4 ⟨z', H4, I4, r4, q4⟩ => thn (ho' pins s4 σ H4 y z' u w' _ I4 r2 r4 q4) fun e s5 ⟨z, H5, I5, r5, k, e, q5⟩ => ?_))
    subst e
    cases r5
    refine wpAny_truthy_bool ?_
    cases k with
    | false => exact ite_ff ⟨.bl false, H5, I5, rfl, q5⟩
    | true => exact ite_tt (chain_last (thn (hd.run pins s5 σ H5 _ I5 q5) fun w'' s6 ⟨z'', H6, I6, r6, q6⟩ => ho'' pins s6 σ H6 z' z'' w' w'' Q I6 r4 r6 q6))
theorem pt_chain3 {op op' op'' : CmpOp} {r r' r'' : R2} (ho : OpR X (compareOp op) r) (ho' : OpR X (compareOp op') r') (ho'' : OpR X (compareOp op'') r'') (ha : PE X a ta) (hb : PE X b tb) (hc : PE X c tc) (hd : PE X d td)
    (hm : lastMarks [op, op', op''] [b, c, d] = false) : PT X (.Compare a [op, op', op''] [b, c, d] pos) (tTest (tChain3 r r' r'' ta tb tc td)) := by
  refine ⟨fun pins s σ H Q I h => ?_⟩
  refine isTrue_chain (thn (ha.run pins s σ H _ I h) fun v s1 ⟨x, H1, I1, r1, q1⟩ => test_link (thn (hb.run pins s1 σ H1 _ I1 q1) fun u s2 ⟨y, H2, I2, r2, q2⟩ =>
    thn (ho pins s2 σ H2 x y v u _ I2 r1 r2 q2) fun e s3 ⟨z, H3, I3, r3, k, e, q3⟩ => ?_)) hm
  subst e
  cases r3
  refine wpAny_truthy_bool ?_
  cases k with
  | false =>
    obtain ⟨k', e', q'⟩ := q3
    cases e'
    exact ite_ff ⟨H3, I3, q'⟩
  | true =>
    refine ite_tt (test_link (thn (hc.run pins s3 σ H3 _ I3 q3) fun w' s4 ⟨z', H4, I4, r4, q4⟩ => thn (ho' pins s4 σ H4 y z' u w' _ I4 r2 r4 q4) fun e s5 ⟨z, H5, I5, r5, k, e, q5⟩ => ?_))
    subst e
    cases r5
    refine wpAny_truthy_bool ?_
    cases k with
    | false =>
      obtain ⟨k', e', q'⟩ := q5
      cases e'
      exact ite_ff ⟨H5, I5, q'⟩
    | true =>
      refine ite_tt (test_last (thn (hd.run pins s5 σ H5 _ I5 q5) fun w'' s6 ⟨z'', H6, I6, r6, q6⟩ => thn (ho'' pins s6 σ H6 z' z'' w' w'' _ I6 r4 r6 q6) fun e s7 ⟨z, H7, I7, r7, k, e, q7⟩ => ?_))
      subst e
      cases r7
      exact wpAny_truthy_bool ⟨H7, I7, q7⟩
end
theorem nomarks {op : CmpOp} {b : Expr} (h : isSet b = false) : behindInMarks op b = false := by
  cases b <;> first | rfl | (simp [isSet] at h)
theorem nolast3 {op op' op'' : CmpOp} {b c d : Expr} (h : isSet d = false) : lastMarks [op, op', op''] [b, c, d] = false := nomarks (op := op'') h
section
variable {G : Gam}
theorem cmpW_bls {op : CmpOp} {x y : D} {Q : D → Prop} (a : cmpW op x y Q) : cmpW op x y fun d => (∃ b, d = .bl b) ∧ Q d := by
  unfold cmpW at a ⊢
  split at a <;> first | exact ⟨⟨_, rfl⟩, a⟩ | exact ⟨a.1, ⟨_, rfl⟩, a.2⟩ | (obtain ⟨k, e, q⟩ := a; exact ⟨k, e, ⟨_, rfl⟩, q⟩) | exact a.elim
theorem chain3_read {X : Cx} {W : WX} {op op' op'' : CmpOp} {a b d f : E} {σ : L2.St} {H F : Hp} {hd : Option Addr} {env : Env'} {Q : VK} (g : Good X.K hd F H) (en : EnvF X.K F H hd env σ)
    (q : ev G (.chain3 op op' op'' a b d f) env (R1 X.K hd F H Q) (RZ X.K X.mg hd F H fun c d H' => W c d σ H')) : tChain3 (rCmp X.K op) (rCmp X.K op') (rCmp X.K op'') (TV X G W a) (TV X G W b) (TV X G W d) (TV X G W f) σ H Q := by
  simp only [ev] at q
  refine tv2 g en q fun d1 d2 v w F' H' T1 T2 q e o1 o2 nn r1 r2 => cmp_ok (F0 := F') (H0 := H') (cmpW_mono (fun r ⟨k, er, q⟩ v' F2 H2 T x2 o r' => ?_) q) (Ext.refl e.good) r1 r2
  subst er
  refine ⟨k, r', ?_⟩
  cases k with
  | true =>
    simp only [if_true] at q
    refine iteT ?_
    have o2' : Own F2 H H2 T2 := o2.later g.hand x2
    have x3 := (e.trans x2).fz g.hand o2'
    have r2' : Rep X.K (fz F2 H2 T2) H2 hd (fr d2) w fun _ => False := (r2.later o2 g.hand x2).fz x2.good.sub
    refine ⟨fz F2 H2 T2, hd, env, x3.good, en.later x3.sf, ev_mono G d (fun z q v3 F3 H3 T3 x4 o3 r3 => ?_) (fun _ z => z.later x3) q⟩
    refine cmp_ok (F0 := F3) (H0 := H3) (cmpW_mono (fun r ⟨k, er, q⟩ v' F5 H5 T5 x5 o5 r5 => ?_) q) (Ext.refl x4.good) (r2'.frozen x4.sf) r3
    subst er
    refine ⟨k, r5, ?_⟩
    have x34 := x3.trans x4
    cases k with
    | true =>
      simp only [if_true] at q
      refine iteT ?_
      have o3' : Own F5 _ H5 T3 := o3.later x3.good.hand x5
      have x6 := (x34.trans x5).fz g.hand (Own.first x3 o3')
      have r3' : Rep X.K (fz F5 H5 T3) H5 hd (fr z) v3 fun _ => False := (r3.later o3 x3.good.hand x5).fz x5.good.sub
      refine ⟨fz F5 H5 T3, hd, env, x6.good, en.later x6.sf, ev_mono G f (fun z q v7 F7 H7 T7 x7 o7 r7 => ?_) (fun _ z => z.later x6) q⟩
      exact cmp_ok q (x6.trans x7) (r3'.frozen x7.sf) r7
    | false =>
      simp only [Bool.false_eq_true, if_false] at q
      exact iteF (q.val (x34.trans x5) rfl)
  | false =>
    simp only [Bool.false_eq_true, if_false] at q
    exact iteF (q.val (e.trans x2) rfl)
theorem chain3_bl {op op' op'' : CmpOp} {a b d f : E} {env : Env'} {Q : D → Prop} {Z : Err → Prop} (q : ev G (.chain3 op op' op'' a b d f) env Q Z) : ev G (.chain3 op op' op'' a b d f) env (fun d => (∃ b, d = .bl b) ∧ Q d) Z := by
  simp only [ev] at q ⊢
  refine ev_mono G a (fun x q => ev_mono G b (fun y q => cmpW_mono (fun r ⟨k, e, q⟩ => ⟨k, e, ?_⟩) q) (fun _ z => z) q) (fun _ z => z) q
  cases k with
  | true =>
    simp only [if_true] at q ⊢
    refine ev_mono G d (fun z q => cmpW_mono (fun r ⟨k, e, q⟩ => ⟨k, e, ?_⟩) q) (fun _ z => z) q
    cases k with
    | true =>
      simp only [if_true] at q ⊢
      exact ev_mono G f (fun z q => cmpW_bls q) (fun _ z => z) q
    | false =>
      simp only [Bool.false_eq_true, if_false] at q ⊢
      exact ⟨⟨_, rfl⟩, q⟩
  | false =>
    simp only [Bool.false_eq_true, if_false] at q ⊢
    exact ⟨⟨_, rfl⟩, q⟩
/-! ## ranges made whole -/
theorem rgI_rgV (a b : Int) : rgV a b = (rgW.rgI a b).map V.int := by
  unfold rgV rgW.rgI
  rw [List.map_map]
  rfl
theorem lrng_make {X : Cx} {hd : Option Addr} {F0 H0 F H : Hp} {Q : VK} {tp : Bool} {a b : Int} (g : HandOk X.K hd F0 H0) (e : Ext X.K hd F0 H0 F H) (q : R1 X.K hd F0 H0 Q (if tp = true then .tup ((rgW.rgI a b).map .int) else .lst true ((rgW.rgI a b).map .int))) :
    ∀ p, H p = none → Q (.ref p) (upd H p (if tp = true then .tup (rgV a b) else .lst (rgV a b))) := by
  rw [rgI_rgV]
  cases tp with
  | true =>
    simp only [if_true] at q ⊢
    exact R1.tup (T := fun _ => False) q e g Own.none ((Reps.ints _).mpr rfl)
  | false =>
    simp only [Bool.false_eq_true, if_false] at q ⊢
    exact R1.lst (T := fun _ => False) q e g Own.none ((Reps.ints _).mpr rfl)
def tRgs (tp : Bool) (te : L2.St → Hp → (Int → Int → Hp → Prop) → Prop) : TE := fun σ H Q => te σ H fun a b H1 => RgOk a b ∧ ∀ p, H1 p = none → Q (.ref p) (upd H1 p (if tp = true then .tup (rgV a b) else .lst (rgV a b)))
theorem pe_rgs {X : Cx} {tp : Bool} {p pos : Pos} {e : Expr} {te : L2.St → Hp → (Int → Int → Hp → Prop) → Prop} (hc : X.calm = true) (hg : Gl X (if tp = true then "tuple" else "list" : Str)) (hf : ∀ x ∈ freeNames, X.mg x = none) (he : PRg X e te) (na : starEach [e] X.env = (false, eval e X.env) :: starEach [] X.env) :
    PE X (.Call (.Name (if tp = true then "tuple" else "list" : Str) p) [e] [] pos) (tRgs tp te) := by
  cases tp with
  | true => exact pe_tupRg hc hg (hf _ (by decide)) he na
  | false => exact pe_listRg hc hg (hf _ (by decide)) he na
theorem lrng1_read {X : Cx} {W : WX} {tp : Bool} {a : E} {σ : L2.St} {H F : Hp} {hd : Option Addr} {env : Env'} {Q : VK} (g : Good X.K hd F H) (en : EnvF X.K F H hd env σ)
    (q : ev G (.lrng tp [a]) env (R1 X.K hd F H Q) (RZ X.K X.mg hd F H fun c d H' => W c d σ H')) : tRgs tp (tRg1 (TV X G W a)) σ H Q := by
  simp only [ev, evs] at q
  refine ⟨F, hd, env, g, en, ev_mono G a (fun d q v F' H' T x o r => ?_) (fun _ z => z) q⟩
  cases d with
  | int b =>
    obtain ⟨h, q⟩ := q
    exact ⟨b, r, h, lrng_make g.hand x q⟩
  | _ => exact q.elim
theorem lrng2_read {X : Cx} {W : WX} {tp : Bool} {a b : E} {σ : L2.St} {H F : Hp} {hd : Option Addr} {env : Env'} {Q : VK} (g : Good X.K hd F H) (en : EnvF X.K F H hd env σ)
    (q : ev G (.lrng tp [a, b]) env (R1 X.K hd F H Q) (RZ X.K X.mg hd F H fun c d H' => W c d σ H')) : tRgs tp (tRg2 (TV X G W a) (TV X G W b)) σ H Q := by
  simp only [ev, evs] at q
  refine tv2 g en q fun d1 d2 v w F' H' T1 T2 q e o1 o2 nn r1 r2 => ?_
  cases d1 with
  | int i =>
    cases d2 with
    | int j =>
      obtain ⟨h, q⟩ := q
      exact ⟨i, j, r1, r2, h, lrng_make g.hand e q⟩
    | _ => exact q.elim
  | _ => exact q.elim
/-! ## d.get(k, x) -/
theorem mget_read {X : Cx} {W : WX} {a k y : E} {σ : L2.St} {H F : Hp} {hd : Option Addr} {env : Env'} {Q : VK} (g : Good X.K hd F H) (en : EnvF X.K F H hd env σ)
    (q : ev G (.mget a k y) env (R1 X.K hd F H Q) (RZ X.K X.mg hd F H fun c d H' => W c d σ H')) : tDGet2 (TV X G W a) (TV X G W k) (TV X G W y) σ H Q := by
  simp only [ev] at q
  refine ⟨F, hd, env, g, en, ev_mono G a (fun d q v F1 H1 T1 x1 o1 r1 => ?_) (fun _ z => z) q⟩
  obtain ⟨hdk, q⟩ := q
  cases d with
  | dik o kvs =>
    obtain ⟨p, us, rfl, h1, h2⟩ := r1.dikH x1.good.sub
    refine ⟨p, rfl, .inl ⟨us, .of h1⟩, F1, hd, env, x1.good, en.later x1.sf, ev_mono G k (fun d2 q v2 F2 H2 T2 x2 o2 r2 => ?_) (fun _ z => z.later x1) q⟩
    have x12 := x1.trans x2
    refine ⟨F2, hd, env, x2.good, en.later x12.sf, ev_mono G y (fun d3 q v3 F3 H3 T3 x3 o3 r3 => ?_) (fun _ z => z.later x12) q⟩
    obtain ⟨k, hk, q⟩ := q
    have r2' := r2.later o2 x1.good.hand x3
    have e2 := keyD_rep hk r2'
    subst e2
    have o1' := o1.later g.hand x2
    have r1' := (r1.later o1 g.hand x2).later o1' g.hand x3
    obtain ⟨p', ep, hh⟩ := dik_get x3.good.sub k r1'
    cases ep
    rcases hh with ⟨hn, hg⟩ | ⟨d, w, hs, hg, rw⟩
    · refine ⟨none, hg, ?_⟩
      rw [hn] at q
      exact q v3 F3 H3 T3 (x12.trans x3) (Own.first x12 o3) r3
    · refine ⟨some w, hg, ?_⟩
      rw [hs] at q
      exact q w F3 H3 T1 (x12.trans x3) (o1'.later g.hand x3) rw
  | _ => cases hdk
end
end Wk
end sec_W9c

section sec_W9d
set_option Elab.async false
set_option linter.all false
set_option maxRecDepth 100000
set_option maxHeartbeats 4000000
namespace Wk
open PySem PySem.Spec PyProof.Rows L2
variable [Tab]
section
variable {K : Frag} {hd : Option Addr} {F H H' : Hp}
theorem Repk.sub {d : List (L2.Key × D)} {v : List (L2.Key × V)} {T T' : ASet} (r : Repk K F H hd d v T) (s : ∀ a, T a → T' a) : Repk K F H hd d v T' := Repk.mono (Same.refl F) r (fun _ _ _ z => z) s
theorem Repk.snoc : ∀ {ds : List (L2.Key × D)} {vs : List (L2.Key × V)} {T T2 : ASet} {k : L2.Key} {d : D} {v : V}, Repk K F H hd ds vs T → Rep K F H hd d v T2 → (∀ a, T a → ¬ T2 a) → Repk K F H hd (ds ++ [(k, d)]) (vs ++ [(k, v)]) (fun a => T a ∨ T2 a)
  | [], vs, T, T2, k, d, v, h, h', n => by
    cases h
    exact ⟨v, [], T2, fun _ => False, rfl, fun _ t => .inr t, fun _ t => t.elim, fun _ _ t => t, h', rfl⟩
  | (q, x) :: ds, vs, T, T2, k, d, v, h, h', n => by
    obtain ⟨w, r, A, B, rfl, s1, s2, m, p1, p2⟩ := h
    refine ⟨w, r ++ [(k, v)], A, fun a => B a ∨ T2 a, rfl, fun a t => .inl (s1 a t), fun a t => t.elim (fun t => .inl (s2 a t)) .inr, fun a t u => u.elim (m a t) (n a (s1 a t)), p1, Repk.snoc p2 h' fun a t => n a (s2 a t)⟩
/-- one key's data stands there, any number of times only if it owns nothing -/
theorem Repk.over : ∀ {ds : List (L2.Key × D)} {vs : List (L2.Key × V)} {T T2 : ASet} {k : L2.Key} {d : D} {v : V}, (ds.map (·.1)).Nodup → Repk K F H hd ds vs T → Rep K F H hd d v T2 → (∀ a, T a → ¬ T2 a) →
    Repk K F H hd (ds.map fun p => if p.1 = k then (p.1, d) else p) (vs.map fun p => if p.1 = k then (p.1, v) else p) (fun a => T a ∨ T2 a)
  | [], vs, T, T2, k, d, v, nd, h, h', n => by
    cases h
    exact rfl
  | (q, x) :: ds, vs, T, T2, k, d, v, nd, h, h', n => by
    obtain ⟨w, r, A, B, rfl, s1, s2, m, p1, p2⟩ := h
    simp only [List.map_cons, List.nodup_cons] at nd
    by_cases e : q = k
    · subst e
      have z : ∀ (p : L2.Key × D), p ∈ ds → (if p.1 = q then (p.1, d) else p) = p := fun p hp => if_neg fun c => nd.1 (List.mem_map.mpr ⟨p, hp, c⟩)
      have e1 : (ds.map fun p => if p.1 = q then (p.1, d) else p) = ds := by
        rw [List.map_congr_left z, List.map_id']
      have nr : q ∉ r.map (·.1) := by rw [Repk.keys p2]; exact nd.1
      have z2 : ∀ (p : L2.Key × V), p ∈ r → (if p.1 = q then (p.1, v) else p) = p := fun p hp => if_neg fun c => nr (List.mem_map.mpr ⟨p, hp, c⟩)
      have e2 : (r.map fun p => if p.1 = q then (p.1, v) else p) = r := by
        rw [List.map_congr_left z2, List.map_id']
      simp only [List.map_cons, if_true, e1, e2]
      exact ⟨v, r, T2, B, rfl, fun a t => .inr t, fun a t => .inl (s2 a t), fun a t u => n a (s2 a u) t, h', p2⟩
    · simp only [List.map_cons, if_neg e]
      exact ⟨w, _, A, fun a => B a ∨ T2 a, rfl, fun a t => .inl (s1 a t), fun a t => t.elim (fun t => .inl (s2 a t)) .inr, fun a t u => u.elim (m a t) (n a (s1 a t)), p1, Repk.over nd.2 p2 h' fun a t => n a (s2 a t)⟩
theorem any_keys {α : Type} (ds : List (L2.Key × α)) (k : L2.Key) : (ds.any fun p => decide (p.1 = k)) = true ↔ k ∈ ds.map (·.1) := by
  simp [List.any_eq_true]
theorem putD_keys {ds : List (L2.Key × D)} {k : L2.Key} {d : D} (nd : (ds.map (·.1)).Nodup) : ((putD ds k d).map (·.1)).Nodup := by
  unfold putD
  split
  · rw [List.map_map, show ((fun p : L2.Key × D => p.1) ∘ fun p => if p.1 = k then (p.1, d) else p) = fun p => p.1 from funext fun p => by simp only [Function.comp]; split <;> rfl]
    exact nd
  · rename_i h
    rw [any_keys] at h
    rw [List.map_append, List.nodup_append]
    refine ⟨nd, by simp, fun a ha b hb e => ?_⟩
    simp only [List.map_cons, List.map_nil, List.mem_singleton] at hb
    subst hb
    subst e
    exact h ha
theorem Repk.put {ds : List (L2.Key × D)} {vs : List (L2.Key × V)} {T T2 : ASet} {k : L2.Key} {d : D} {v : V} (nd : (ds.map (·.1)).Nodup) (h : Repk K F H hd ds vs T) (h' : Rep K F H hd d v T2) (n : ∀ a, T a → ¬ T2 a) :
    Repk K F H hd (putD ds k d) (putK vs k v) (fun a => T a ∨ T2 a) := by
  unfold putD putK
  by_cases e : k ∈ ds.map (·.1)
  · rw [if_pos ((any_keys _ _).mpr e), if_pos ((any_keys _ _).mpr (by rw [Repk.keys h]; exact e))]
    exact Repk.over nd h h' n
  · rw [if_neg fun z => e ((any_keys _ _).mp z), if_neg fun z => e (by rw [← Repk.keys h]; exact (any_keys _ _).mp z)]
    exact Repk.snoc h h' n
end
theorem _root_.Wk.Repk.later {K : Frag} {hd : Option Addr} {F H F1 H1 F2 H2 : Hp} {d : List (L2.Key × D)} {v : List (L2.Key × V)} {T : ASet} (r : Repk K F1 H1 hd d v T) (o : Own F1 H H1 T) (g : HandOk K hd F H) (e : Ext K hd F1 H1 F2 H2) : Repk K F2 H2 hd d v T :=
  Repk.mono e.sf r (fun a u t q => e.keep a u (Own.notHand g o t) q (o.nt t q)) fun _ t => t
section
variable {X : Cx} {G : Gam} {n : NB} {W : WX}
theorem dc_read {own : List (Str × Nat)} {tg : Tg} {k : It} {src : List E} {c : Option E} {key val : E} (ht : tgIn tg (own.map (·.2)) = true) {σ : L2.St} {H : Hp} {Q : VK} (h : TV X G W (.dc own tg k src c key val) σ H Q) :
    tDc (TIv X G W k src) (TGv X.K tg) (TCv X G c) (TV X G W0 key) (TV X G W0 val) (own.map (·.2)) σ H Q := by
  obtain ⟨F, hd, env, g, en, q⟩ := h
  simp only [ev] at q
  refine ⟨F, hd, env, g, en, evs_mono G src (fun ds q => srcW_mono (fun xs ⟨hl, q⟩ J F1 H1 x1 fd D nD => ?_) q) (fun _ z => z) q⟩
  have n0 : FN H D := x1.back (FN.of nD)
  have f1 : F1 D = none := x1.good.sub.free nD
  have nh : ∀ {F' H' : Hp} {u : HO}, H' D = some u → HandOk X.K hd F' H' → hd ≠ some D := fun _ _ z => by
    obtain ⟨u, q, t⟩ := g.hand.there z
    exact n0 u q t
  refine ⟨fun i m H' => m = xs.length - i ∧ i ≤ xs.length ∧ ∃ F' T acc vs, Ext X.K hd F H F' H' ∧ Same F1 F' ∧ F' D = none ∧ H' D = some (.dK vs) ∧ (acc.map (·.1)).Nodup ∧ Own F' H H' T ∧ ¬ T D ∧ Repk X.K F' H' hd acc vs T ∧ vs.length ≤ i ∧
    dcW (fun x o => ∃ env', bindT tg x (wipeE env (own.map (·.2))) = some env' ∧ evC G c env' (fun b => if b = true then ev G key env' (fun y => ∃ q, keyD y = some q ∧ ev G val env' (fun z => o (some (q, z))) (fun _ => False)) (fun _ => False) else o none)) (xs.drop i) acc (fun r => R1 X.K hd F H Q (.dik true r)),
    ⟨xs.length, rfl, Nat.zero_le _, F1, fun _ => False, [], [], x1.trans (Ext.newO x1.good nD), Same.refl _, f1, upd_same, List.nodup_nil, Own.none, fun t => t, rfl, Nat.le_refl _, q⟩, ?_⟩
  rintro i m H' ⟨rfl, hi, F', T, acc, vs, e, sf, fD, hD, nd, o, nT, rp, lv, q⟩
  by_cases hlt : i < xs.length
  · refine .inr ⟨fd.go i F' H' sf e.good hlt, _, fun H'' w => ⟨xs.length - (i + 1), by omega, w⟩, fun v H'' y => ?_⟩
    have hget : xs[i]? = some xs[i] := List.getElem?_eq_getElem hlt
    obtain ⟨F2, e2, rv⟩ := fd.yld i F' H' v H'' sf e.good y _ hget
    rw [List.drop_eq_getElem_cons hlt] at q
    obtain ⟨env', b, q⟩ := q
    have x2 := e.trans e2
    have hD2 := e2.keep D _ (nh hD e.good.hand) hD (NT.of rfl)
    have en2 : EnvF X.K F2 H'' hd (wipeE env (own.map (·.2))) (wipe σ (own.map (·.2))) := (en.later (H1 := H'') x2.sf).wipe _
    refine ⟨F2, hd, xs[i], _, env', e2.good, rv, b, fun σ2 bd => ⟨by rw [Bound.wipe tg ht bd, wipe_idem], F2, hd, env', e2.good, EnvF.bound tg en2 b bd, evC_mono G c (fun bb q F3 H3 e3 => ?_) q⟩⟩
    have x3 := x2.trans e3
    have hD3 := e3.keep D _ (nh hD2 e2.good.hand) hD2 (NT.of rfl)
    have fD3 : F3 D = none := e3.nof D _ hD2 (NT.of rfl) (e2.nof D _ hD (NT.of rfl) fD)
    have sf3 := (sf.trans e2.sf).trans e3.sf
    have o3 : Own F3 H H3 T := (o.later g.hand e2).later g.hand e3
    have rp3 : Repk X.K F3 H3 hd acc vs T := (rp.later o g.hand e2).later (o.later g.hand e2) g.hand e3
    cases bb with
    | true =>
      simp only [if_true] at q
      refine iteT ?_
      refine ⟨F3, hd, env', e3.good, (EnvF.bound tg en2 b bd).later e3.sf, ev_mono G key (fun yk q vk F5 H5 T5 e5 o5 r5 => ?_) (fun _ z => z.elim) q⟩
      obtain ⟨kk, hkk, q⟩ := q
      have ek := keyD_rep hkk r5
      have hD5 := e5.keep D _ (nh hD3 e3.good.hand) hD3 (NT.of rfl)
      have fD5 := e5.nof D _ hD3 (NT.of rfl) fD3
      refine ⟨F5, hd, env', e5.good, (EnvF.bound tg en2 b bd).later (e3.sf.trans e5.sf), ev_mono G val (fun y q v' F4 H4 T4 e4 o4 r4 => ?_) (fun _ z => z.elim) q⟩
      have o35 : Own F5 H H5 T := o3.later g.hand e5
      have rp5 : Repk X.K F5 H5 hd acc vs T := rp3.later o3 g.hand e5
      have hD4 := e4.keep D _ (nh hD5 e5.good.hand) hD5 (NT.of rfl)
      have fD4 := e4.nof D _ hD5 (NT.of rfl) fD5
      have nT4 : ¬ T4 D := fun t => by
        exact (o4 D t).1 _ hD5 (NT.of rfl)
      have o4' : Own F4 H H4 T := o35.later g.hand e4
      have rp4 : Repk X.K F4 H4 hd acc vs T := rp5.later o35 g.hand e4
      have x35 := x3.trans e5
      refine ⟨vs, kk, ek, hD4, by rw [sizeLine_eq]; omega, ?_⟩
      refine ⟨rfl, hlt, F4, fun a => T a ∨ T4 a, putD acc kk y, putK vs kk v', (x35.trans e4).upd g.hand n0 fD4 hD4 rfl, (sf3.trans e5.sf).trans e4.sf, fD4, upd_same, putD_keys nd, fun a t => ?_, fun t => t.elim nT nT4, ?_, by have := length_putK vs kk v'; omega, ?_⟩
      · have ne : a ≠ D := fun z => t.elim (fun t => nT (z ▸ t)) (fun t => nT4 (z ▸ t))
        rw [upd_ne ne]
        exact t.elim (o4' a) (Own.first x35 o4 a)
      · have k : ∀ {T' : ASet}, ¬ T' D → ∀ a u, T' a → H4 a = some u → L2.upd H4 D (.dK (putK vs kk v')) a = some u := fun {T'} nn a u t q => by
          have ne : a ≠ D := fun z => nn (by rw [← z]; exact t)
          rw [upd_ne ne]; exact q
        exact Repk.put nd (Repk.mono (Same.refl _) rp4 (k nT) fun _ t => t) (Rep.mono (Same.refl _) r4 (k nT4) fun _ t => t) (Own.apart o35 o4)
      · simpa using q
    | false =>
      simp only [Bool.false_eq_true, if_false] at q
      refine iteF ?_
      exact ⟨rfl, hlt, F3, T, acc, vs, x3, sf3, fD3, hD3, nd, o3, nT, rp3, by omega, by simpa using q⟩
  · have hi' : i = xs.length := by omega
    subst hi'
    refine .inl ⟨fd.stop _ F' H' sf e.good (Nat.le_refl _), ?_⟩
    rw [List.drop_length] at q
    have q' : R1 X.K hd F H Q (.dik true acc) := q
    refine q' _ F' H' (fun a => T a ∨ a = D) e (fun a t => ?_) ⟨D, vs, rfl, .inr rfl, hD, rp.sub fun a t => ⟨.inl t, fun z => nT (z ▸ t)⟩⟩
    rcases t with t | rfl
    · exact o a t
    · exact ⟨n0, fD, _, hD, rfl⟩
end
end Wk
end sec_W9d

section sec_W10
set_option Elab.async false
set_option linter.all false
set_option maxRecDepth 100000
set_option maxHeartbeats 8000000
namespace Wk
open PySem PySem.Spec PyProof.Rows L2
variable [Tab]
/-! ## soundness of ev -/
theorem cmpW_bl {op : CmpOp} {x y : D} {Q : D → Prop} (a : cmpW op x y Q) : cmpW op x y fun d => (∃ b, d = .bl b) ∧ Q d := by
  unfold cmpW at a ⊢
  split at a <;> first | exact ⟨⟨_, rfl⟩, a⟩ | exact ⟨a.1, ⟨_, rfl⟩, a.2⟩ | (obtain ⟨k, e, q⟩ := a; exact ⟨k, e, ⟨_, rfl⟩, q⟩) | exact a.elim
theorem evs_len (G : Gam) : ∀ (es : List E) {env : Env'} {Q : List D → Prop} {Z : Err → Prop}, evs G es env Q Z → evs G es env (fun ds => ds.length = es.length ∧ Q ds) Z
  | [], env, Q, Z, a => by
    simp only [evs] at a ⊢
    exact ⟨rfl, a⟩
  | e :: es, env, Q, Z, a => by
    simp only [evs] at a ⊢
    exact ev_mono G e (fun d q => evs_mono G es (fun ds ⟨l, q⟩ => ⟨by simp [l], q⟩) (fun _ z => z) (evs_len G es q)) (fun _ z => z) a
/-- a truth value that is wished as a value -/
theorem R1.bl {K : Frag} {hd : Option Addr} {F H : Hp} {Q : Bool → Hp → Prop} {b : Bool} (q : R1 K hd F H (Tru K Q) (.bl b)) : R1 K hd F H (fun x H' => ∃ k, x = .bl k ∧ Q k H') (.bl b) := fun v F' H' T x o r => by
  obtain ⟨k, e, q⟩ := q v F' H' T x o r
  have hv : v = .bl b := r
  subst hv
  exact ⟨b, rfl, by rw [← (show k = b from e)]; exact q⟩
theorem pt_ife {X : Cx} {c a b : Expr} {pos : Pos} {tc ta tb : TT} (hc : PT X c tc) (ha : PT X a ta) (hb : PT X b tb) : PT X (.IfExp c a b pos) fun σ H Q => tc σ H fun k H1 => if k = true then ta σ H1 Q else tb σ H1 Q := by
  refine ⟨fun pins s σ H Q I h => ?_⟩
  show wpAny _ _ (do if ← isTrue c X.env (eval c X.env) then isTrue a X.env (eval a X.env) else isTrue b X.env (eval b X.env)) _ _ s
  refine wpAny_bind (thn (hc.run pins s σ H _ I h) fun k s1 ⟨H1, I1, q1⟩ => ?_)
  cases k with
  | true => exact ha.run pins s1 σ H1 Q I1 q1
  | false => exact hb.run pins s1 σ H1 Q I1 q1
theorem nomark' {op : CmpOp} {b : Expr} (h : isSet b = false) : behindInMarks op b = false := by
  cases b <;> first | rfl | (simp [isSet] at h)
theorem nolast {op op' : CmpOp} {b c : Expr} (h : isSet c = false) : lastMarks [op, op'] [b, c] = false := nomark' (op := op') h
section
variable {G : Gam}
/-- both readings of an expression -/
def Snd (X : Cx) (G : Gam) (W : WX) (e : E) (ex : Expr) : Prop := PE X ex (TV X G W e) ∧ PT X ex fun σ H Q => TV X G W e σ H (Tru X.K Q)
theorem snd_of {X : Cx} {W : WX} {e : E} {ex : Expr} (h : PE X ex (TV X G W e)) (he : ∀ whole, isTrue ex X.env whole = (do let v ← whole; standAt ex.pos; holding [v] (truthy v)) := by intro _; rfl) : Snd X G W e ex := ⟨h, pt_truth h he⟩
theorem okName_db {x : Str} (h : okName x = true) : (x == ("__debug__" : Str)) = false ∧ (x == ("__classdict__" : Str)) = false ∧ x ≠ "__name__" := by
  unfold okName at h
  simp only [Bool.and_eq_true, Bool.not_eq_true', decide_eq_false_iff_not] at h
  exact ⟨h.1.1, h.1.2, h.2⟩
def TVand (X : Cx) (G : Gam) (W : WX) (es : List E) : TE := fun σ H Q => ∃ F hd env, Good X.K hd F H ∧ EnvF X.K F H hd env σ ∧ evAnd G es env (R1 X.K hd F H Q) (RZ X.K X.mg hd F H fun c d H' => W c d σ H')
def TVor (X : Cx) (G : Gam) (W : WX) (es : List E) : TE := fun σ H Q => ∃ F hd env, Good X.K hd F H ∧ EnvF X.K F H hd env σ ∧ evOr G es env (R1 X.K hd F H Q) (RZ X.K X.mg hd F H fun c d H' => W c d σ H')
def TVo (X : Cx) (G : Gam) (W : WX) (e : Option E) : TO := fun σ H Q => ∃ F hd env, Good X.K hd F H ∧ EnvF X.K F H hd env σ ∧ evO G e env (fun o => ∀ F' H', Ext X.K hd F H F' H' → Q o H') (RZ X.K X.mg hd F H fun c d H' => W c d σ H')
theorem _root_.L2.PO.imp {X : Cx} {e : Option Expr} {t t' : TO} (h : PO X e t) (i : ∀ σ H Q, t' σ H Q → t σ H Q) : PO X e t' := ⟨fun pins s σ H Q I q => h.run pins s σ H Q I (i σ H Q q)⟩
theorem _root_.L2.PTs.imp {X : Cx} {e : List Expr} {t t' : TT} (h : PTs X e t) (i : ∀ σ H Q, t' σ H Q → t σ H Q) : PTs X e t' := ⟨fun pins s σ H Q I q => h.run pins s σ H Q I (i σ H Q q)⟩
theorem _root_.L2.PW.imp {X : Cx} {e : Expr} {t t' : TT} (h : PW X e t) (i : ∀ σ H Q, t' σ H Q → t σ H Q) : PW X e t' := ⟨fun wh pins s σ H Q I q => h.run wh pins s σ H Q I (i σ H Q q)⟩
theorem noStars {es : List Expr} (h : ∀ z ∈ es, isStar z = false) (pos : Pos) (env : Env) : (backTo pos (starEach es env)).any (·.1) = false := by
  induction es with
  | nil => rfl
  | cons e es ih =>
    rw [starEach_of (h e (by simp)) es env]
    exact ih fun z hz => h z (by simp [hz])
theorem chain_read {X : Cx} {W : WX} {op op' : CmpOp} {a b d : E} {σ : L2.St} {H F : Hp} {hd : Option Addr} {env : Env'} {Q : VK} (g : Good X.K hd F H) (en : EnvF X.K F H hd env σ)
    (q : ev G (.chain op op' a b d) env (R1 X.K hd F H Q) (RZ X.K X.mg hd F H fun c d H' => W c d σ H')) : tChain (rCmp X.K op) (rCmp X.K op') (TV X G W a) (TV X G W b) (TV X G W d) σ H Q := by
  simp only [ev] at q
  refine tv2 g en q fun d1 d2 v w F' H' T1 T2 q e o1 o2 nn r1 r2 => cmp_ok (F0 := F') (H0 := H') (cmpW_mono (fun r ⟨k, er, q⟩ v' F2 H2 T x2 o r' => ?_) q) (Ext.refl e.good) r1 r2
  subst er
  refine ⟨k, r', ?_⟩
  cases k with
  | true =>
    simp only [if_true] at q
    refine iteT ?_
    have o2' : Own F2 H H2 T2 := o2.later g.hand x2
    have x3 := (e.trans x2).fz g.hand o2'
    have r2' : Rep X.K (fz F2 H2 T2) H2 hd (fr d2) w fun _ => False := (r2.later o2 g.hand x2).fz x2.good.sub
    refine ⟨fz F2 H2 T2, hd, env, x3.good, en.later x3.sf, ev_mono G d (fun z q v3 F3 H3 T3 x4 o3 r3 => ?_) (fun _ z => z.later x3) q⟩
    exact cmp_ok q (x3.trans x4) (r2'.frozen x4.sf) r3
  | false =>
    simp only [Bool.false_eq_true, if_false] at q
    exact iteF (q.val (e.trans x2) rfl)
theorem chain_bl {op op' : CmpOp} {a b d : E} {env : Env'} {Q : D → Prop} {Z : Err → Prop} (q : ev G (.chain op op' a b d) env Q Z) : ev G (.chain op op' a b d) env (fun d => (∃ b, d = .bl b) ∧ Q d) Z := by
  simp only [ev] at q ⊢
  refine ev_mono G a (fun x q => ev_mono G b (fun y q => cmpW_mono (fun r ⟨k, e, q⟩ => ⟨k, e, ?_⟩) q) (fun _ z => z) q) (fun _ z => z) q
  cases k with
  | true =>
    simp only [if_true] at q ⊢
    exact ev_mono G d (fun z q => cmpW_bl q) (fun _ z => z) q
  | false =>
    simp only [Bool.false_eq_true, if_false] at q ⊢
    exact ⟨⟨_, rfl⟩, q⟩
theorem and_of {e e' : E} {es : List E} {env : Env'} {Q : D → Prop} {Z : Err → Prop} : evAnd G (e :: e' :: es) env Q Z = ev G e env (fun x => ∃ b, x = .bl b ∧ if b = true then evAnd G (e' :: es) env Q Z else Q (.bl false)) Z := by rw [evAnd]
theorem or_of {e e' : E} {es : List E} {env : Env'} {Q : D → Prop} {Z : Err → Prop} : evOr G (e :: e' :: es) env Q Z = ev G e env (fun x => ∃ b, x = .bl b ∧ if b = true then Q (.bl true) else evOr G (e' :: es) env Q Z) Z := by rw [evOr]
/-- a truth value as a test -/
theorem tv_test {X : Cx} {W : WX} {e : E} {σ : L2.St} {H F : Hp} {hd : Option Addr} {env : Env'} {R : Bool → Hp → Prop} {Q : D → Prop} (g : Good X.K hd F H) (en : EnvF X.K F H hd env σ)
    (q : ev G e env Q (RZ X.K X.mg hd F H fun c d H' => W c d σ H')) (k : ∀ d, Q d → ∃ b, d = .bl b ∧ ∀ F' H', Ext X.K hd F H F' H' → R b H') : TV X G W e σ H (Tru X.K R) :=
  ⟨F, hd, env, g, en, ev_mono G e (fun d q v F' H' T x o r => by
    obtain ⟨b, rfl, q'⟩ := k d q
    have hv : v = .bl b := r
    subst hv
    exact ⟨b, rfl, q' F' H' x⟩) (fun _ z => z) q⟩
mutual
theorem snd : ∀ (e : E) (ex : Expr) (X : Cx) (n : NB) (sc : Scope) (W : WX), X.env.scope = sc → XOk X G n → chk G n X.N sc e ex = true → Takes X W → Snd X G W e ex
  | .var i, ex, X, n, sc, W, es, x, c, tk => by
    cases ex with
    | Name y p =>
      simp only [chk, Bool.and_eq_true, decide_eq_true_eq] at c
      obtain ⟨c1, c2, c3⟩ := c
      obtain ⟨d1, d2, _⟩ := okName_db c3
      refine snd_of ((pe_var c1 (vis_of es c2) d1 d2).imp fun σ H Q ⟨F, hd, env, g, en, q⟩ => ?_)
      obtain ⟨d, e1, q⟩ := q
      obtain ⟨v, e2, r⟩ := en.get i d e1
      exact ⟨v, e2, q.val (Ext.refl g) r⟩
    | _ => simp [chk] at c
  | .int i, ex, X, n, sc, W, es, x, c, tk => by
    cases ex with
    | Constant k j p =>
      cases k with
      | int m =>
        simp only [chk, decide_eq_true_eq] at c
        subst c
        exact snd_of (pe_int.imp fun σ H Q ⟨F, hd, env, g, en, q⟩ => R1.val (d := .int i) q (Ext.refl g) rfl)
      | _ => simp [chk] at c
    | _ => simp [chk] at c
  | .bl i, ex, X, n, sc, W, es, x, c, tk => by
    cases ex with
    | Constant k j p =>
      cases k with
      | bool m =>
        simp only [chk, beq_iff_eq] at c
        subst c
        exact snd_of (pe_bl.imp fun σ H Q ⟨F, hd, env, g, en, q⟩ => R1.val (d := .bl i) q (Ext.refl g) rfl)
      | _ => simp [chk] at c
    | _ => simp [chk] at c
  | .non, ex, X, n, sc, W, es, x, c, tk => by
    cases ex with
    | Constant k j p =>
      cases k with
      | none => exact snd_of (pe_non.imp fun σ H Q ⟨F, hd, env, g, en, q⟩ => R1.val (d := .non) q (Ext.refl g) rfl)
      | _ => simp [chk] at c
    | _ => simp [chk] at c
  | .str i, ex, X, n, sc, W, es, x, c, tk => by
    cases ex with
    | Constant k j p =>
      cases k with
      | str m =>
        simp only [chk, decide_eq_true_eq] at c
        subst c
        exact snd_of (pe_str.imp fun σ H Q ⟨F, hd, env, g, en, q⟩ => R1.val (d := .str i) q (Ext.refl g) rfl)
      | _ => simp [chk] at c
    | _ => simp [chk] at c
  | .glo y, ex, X, n, sc, W, es, x, c, tk => by
    cases ex with
    | Name z p =>
      simp only [chk, Bool.and_eq_true, decide_eq_true_eq] at c
      obtain ⟨rfl, c2, c3⟩ := c
      cases hc : G.con y with
      | none => exact snd_of ⟨fun pins s σ H Q I ⟨F, hd, env, g, en, i, e, q⟩ => by rw [hc] at e; cases e⟩
      | some i =>
        obtain ⟨t, ht⟩ := x.con y i hc
        refine snd_of ((pe_glob (gl_of es c2) ht (v := .int i) ⟨t, rfl⟩ (okName_db c3).1).imp fun σ H Q ⟨F, hd, env, g, en, q⟩ => ?_)
        obtain ⟨j, e, q⟩ := q
        rw [hc] at e
        cases e
        exact R1.val (d := .int i) q (Ext.refl g) rfl
    | _ => simp [chk] at c
  | .bin op a b, ex, X, n, sc, W, es, x, c, tk => by
    cases ex with
    | BinOp y o z p =>
      simp only [chk, Bool.and_eq_true, decide_eq_true_eq] at c
      obtain ⟨rfl, c1, c2⟩ := c
      refine snd_of ((pe_op (op_bin op) (snd a y X n sc W es x c1 tk).1 (snd b z X n sc W es x c2 tk).1).imp fun σ H Q ⟨F, hd, env, g, en, q⟩ => ?_)
      simp only [ev] at q
      exact tv2 g en q fun d1 d2 v w F' H' T1 T2 q e o1 o2 nn r1 r2 => bin_ok q e g.hand o1 o2 nn r1 r2
    | _ => simp [chk] at c
  | .neg a, ex, X, n, sc, W, es, x, c, tk => by
    cases ex with
    | UnaryOp o y p =>
      cases o with
      | USub =>
        simp only [chk] at c
        refine snd_of ((pe_un un_neg (snd a y X n sc W es x c tk).1).imp fun σ H Q ⟨F, hd, env, g, en, q⟩ => ?_)
        simp only [ev] at q
        refine ⟨F, hd, env, g, en, ev_mono G a (fun d ⟨i, e, q⟩ v F' H' T x o r => ?_) (fun _ z => z) q⟩
        subst e
        exact ⟨i, r, q.val x rfl⟩
      | _ => simp [chk] at c
    | _ => simp [chk] at c
  | .cmp op a b, ex, X, n, sc, W, es, x, c, tk => by
    cases ex with
    | Compare y ops zs p =>
      match ops, zs, c with
      | [o], [z], c =>
        simp only [chk, Bool.and_eq_true, decide_eq_true_eq, Bool.not_eq_true'] at c
        obtain ⟨rfl, c0, c1, c2⟩ := c
        have ha := (snd a y X n sc W es x c1 tk).1
        have hb := (snd b z X n sc W es x c2 tk).1
        refine ⟨(pe_cmpR (op_cmp x.ub op) ha hb (nomark' c0)).imp fun σ H Q ⟨F, hd, env, g, en, q⟩ => ?_, (pt_cmpR (op_cmp x.ub op) ha hb (nomark' c0)).imp fun σ H Q ⟨F, hd, env, g, en, q⟩ => ?_⟩
        · simp only [ev] at q
          exact tv2 g en q fun d1 d2 v w F' H' T1 T2 q e o1 o2 nn r1 r2 => cmp_ok q e r1 r2
        · simp only [ev] at q
          exact tv2 g en q fun d1 d2 v w F' H' T1 T2 q e o1 o2 nn r1 r2 => cmp_ok (cmpW_mono (fun d ⟨⟨b, eb⟩, q⟩ => by subst eb; exact R1.bl q) (cmpW_bl q)) e r1 r2
      | [], _, c => simp [chk] at c
      | [_], [], c => simp [chk] at c
      | [_], _ :: _ :: _, c => simp [chk] at c
      | _ :: _ :: _, _, c => simp [chk] at c
    | _ => simp [chk] at c
  | .chain op op' a b d, ex, X, n, sc, W, es, x, c, tk => by
    cases ex with
    | Compare y ops zs p =>
      match ops, zs, c with
      | [o, o'], [z, w], c =>
        simp only [chk, Bool.and_eq_true, decide_eq_true_eq, Bool.not_eq_true'] at c
        obtain ⟨⟨rfl, rfl⟩, ⟨c0, c0'⟩, c1, c2, c3⟩ := c
        have ha := (snd a y X n sc W es x c1 tk).1
        have hb := (snd b z X n sc W es x c2 tk).1
        have hd := (snd d w X n sc W es x c3 tk).1
        refine ⟨(pe_chain (op_cmp x.ub op) (op_cmp x.ub op') ha hb hd (nolast c0')).imp fun σ H Q ⟨F, hd, env, g, en, q⟩ => chain_read g en q, (pt_chain (op_cmp x.ub op) (op_cmp x.ub op') ha hb hd (nolast c0')).imp fun σ H Q ⟨F, hd, env, g, en, q⟩ => ?_⟩
        exact chain_read g en (ev_mono G _ (fun d ⟨⟨b, eb⟩, q⟩ => by subst eb; exact R1.bl q) (fun _ z => z) (chain_bl q))
      | [], _, c => simp [chk] at c
      | [_], _, c => simp [chk] at c
      | [_, _], [], c => simp [chk] at c
      | [_, _], [_], c => simp [chk] at c
      | [_, _], _ :: _ :: _ :: _, c => simp [chk] at c
      | _ :: _ :: _ :: _, _, c => simp [chk] at c
    | _ => simp [chk] at c
  | .chain3 op op' op'' a b d f, ex, X, n, sc, W, es, x, c, tk => by
    cases ex with
    | Compare y ops zs p =>
      match ops, zs, c with
      | [o, o', o''], [z, w, u], c =>
        simp only [chk, Bool.and_eq_true, decide_eq_true_eq, Bool.not_eq_true'] at c
        obtain ⟨⟨rfl, rfl, rfl⟩, ⟨c0, c0', c0''⟩, c1, c2, c3, c4⟩ := c
        have ha := (snd a y X n sc W es x c1 tk).1
        have hb := (snd b z X n sc W es x c2 tk).1
        have hd := (snd d w X n sc W es x c3 tk).1
        have hf := (snd f u X n sc W es x c4 tk).1
        refine ⟨(pe_chain3 (op_cmp x.ub op) (op_cmp x.ub op') (op_cmp x.ub op'') ha hb hd hf (nolast3 c0'')).imp fun σ H Q ⟨F, hd, env, g, en, q⟩ => chain3_read g en q, (pt_chain3 (op_cmp x.ub op) (op_cmp x.ub op') (op_cmp x.ub op'') ha hb hd hf (nolast3 c0'')).imp fun σ H Q ⟨F, hd, env, g, en, q⟩ => ?_⟩
        exact chain3_read g en (ev_mono G _ (fun d ⟨⟨b, eb⟩, q⟩ => by subst eb; exact R1.bl q) (fun _ z => z) (chain3_bl q))
      | [], _, c => simp [chk] at c
      | [_], _, c => simp [chk] at c
      | [_, _], _, c => simp [chk] at c
      | [_, _, _], [], c => simp [chk] at c
      | [_, _, _], [_], c => simp [chk] at c
      | [_, _, _], [_, _], c => simp [chk] at c
      | [_, _, _], _ :: _ :: _ :: _ :: _, c => simp [chk] at c
      | _ :: _ :: _ :: _ :: _, _, c => simp [chk] at c
    | _ => simp [chk] at c
  | .and es, ex, X, n, sc, W, hs, x, c, tk => by
    cases ex with
    | BoolOp o ys p =>
      cases o with
      | And =>
        simp only [chk] at c
        obtain ⟨h1, h2⟩ := sndAnd es ys p X n sc W hs x c tk
        refine ⟨h1.imp fun σ H Q ⟨F, hd, env, g, en, q⟩ => ?_, (h2.pt).imp fun σ H Q ⟨F, hd, env, g, en, q⟩ => ?_⟩
        · simp only [ev] at q
          exact ⟨F, hd, env, g, en, q⟩
        · simp only [ev] at q
          exact ⟨F, hd, env, g, en, q⟩
      | Or => simp [chk] at c
    | _ => simp [chk] at c
  | .or es, ex, X, n, sc, W, hs, x, c, tk => by
    cases ex with
    | BoolOp o ys p =>
      cases o with
      | Or =>
        simp only [chk] at c
        obtain ⟨h1, h2⟩ := sndOr es ys p X n sc W hs x c tk
        refine ⟨h1.imp fun σ H Q ⟨F, hd, env, g, en, q⟩ => ?_, (h2.pt).imp fun σ H Q ⟨F, hd, env, g, en, q⟩ => ?_⟩
        · simp only [ev] at q
          exact ⟨F, hd, env, g, en, q⟩
        · simp only [ev] at q
          exact ⟨F, hd, env, g, en, q⟩
      | And => simp [chk] at c
    | _ => simp [chk] at c
  | .not a, ex, X, n, sc, W, es, x, c, tk => by
    cases ex with
    | UnaryOp o y p =>
      cases o with
      | Not =>
        simp only [chk] at c
        obtain ⟨h1, h2⟩ := snd a y X n sc W es x c tk
        refine ⟨(pe_not h1).imp fun σ H Q ⟨F, hd, env, g, en, q⟩ => ?_, (pt_not h2).imp fun σ H Q ⟨F, hd, env, g, en, q⟩ => ?_⟩
        · simp only [ev] at q
          refine ⟨F, hd, env, g, en, ev_mono G a (fun d ⟨b, e, q⟩ v F' H' T x o r => ?_) (fun _ z => z) q⟩
          subst e
          exact ⟨b, r, q.val x rfl⟩
        · simp only [ev] at q
          refine tv_test g en q fun d ⟨b, e, q⟩ => ⟨b, e, fun F' H' x => ?_⟩
          obtain ⟨k, e, q⟩ := R1.bl q _ _ _ _ x Own.none (show Rep X.K F' H' hd (.bl (!b)) (.bl (!b)) (fun _ => False) from rfl)
          cases e
          exact q
      | _ => simp [chk] at c
    | _ => simp [chk] at c
  | .ite t a b, ex, X, n, sc, W, es, x, c, tk => by
    cases ex with
    | IfExp z y w p =>
      simp only [chk, Bool.and_eq_true] at c
      obtain ⟨c1, c2, c3⟩ := c
      obtain ⟨_, ht⟩ := snd t z X n sc W es x c1 tk
      obtain ⟨a1, a2⟩ := snd a y X n sc W es x c2 tk
      obtain ⟨b1, b2⟩ := snd b w X n sc W es x c3 tk
      refine ⟨(pe_ifExp ht a1 b1).imp fun σ H Q ⟨F, hd, env, g, en, q⟩ => ?_, (pt_ife ht a2 b2).imp fun σ H Q ⟨F, hd, env, g, en, q⟩ => ?_⟩
      · simp only [ev] at q
        refine ⟨F, hd, env, g, en, ev_mono G t (fun d ⟨k, e, q⟩ v F' H' T x o r => ⟨k, truth_ok x.good.sub r e, ?_⟩) (fun _ z => z) q⟩
        cases k with
        | true =>
          simp only [if_true] at q
          exact iteT ⟨F', hd, env, x.good, en.later x.sf, ev_mono G a (fun d q => q.later x) (fun _ z => z.later x) q⟩
        | false =>
          simp only [Bool.false_eq_true, if_false] at q
          exact iteF ⟨F', hd, env, x.good, en.later x.sf, ev_mono G b (fun d q => q.later x) (fun _ z => z.later x) q⟩
      · simp only [ev] at q
        refine ⟨F, hd, env, g, en, ev_mono G t (fun d ⟨k, e, q⟩ v F' H' T x o r => ⟨k, truth_ok x.good.sub r e, ?_⟩) (fun _ z => z) q⟩
        cases k with
        | true =>
          simp only [if_true] at q
          exact iteT ⟨F', hd, env, x.good, en.later x.sf, ev_mono G a (fun d q => q.later x) (fun _ z => z.later x) q⟩
        | false =>
          simp only [Bool.false_eq_true, if_false] at q
          exact iteF ⟨F', hd, env, x.good, en.later x.sf, ev_mono G b (fun d q => q.later x) (fun _ z => z.later x) q⟩
    | _ => simp [chk] at c
  | .tup as, ex, X, n, sc, W, es, x, c, tk => by
    cases ex with
    | Tuple ys k p =>
      simp only [chk, Bool.and_eq_true, decide_eq_true_eq] at c
      have hl := chks_len c.1
      refine snd_of ((pe_tup (snds as ys X n sc W es x c.1 tk).1).imp fun σ H Q ⟨F, hd, env, g, en, q⟩ => ?_)
      simp only [ev] at q
      refine ⟨F, hd, env, g, en, evs_mono G as (fun ds ⟨l, q⟩ v F' H' T x o r => ⟨?_, q.tup x g.hand o r⟩) (fun _ z => z) (evs_len G as q)⟩
      rw [r.length, sizeLine_eq]; omega
    | _ => simp [chk] at c
  | .lst as, ex, X, n, sc, W, es, x, c, tk => by
    cases ex with
    | List ys p =>
      simp only [chk, Bool.and_eq_true, decide_eq_true_eq] at c
      have hl := chks_len c.1
      refine snd_of ((pe_lst (snds as ys X n sc W es x c.1 tk).1).imp fun σ H Q ⟨F, hd, env, g, en, q⟩ => ?_)
      simp only [ev] at q
      refine ⟨F, hd, env, g, en, evs_mono G as (fun ds ⟨l, q⟩ v F' H' T x o r => ⟨?_, q.lst x g.hand o r⟩) (fun _ z => z) (evs_len G as q)⟩
      rw [r.length, sizeLine_eq]; omega
    | _ => simp [chk] at c
  | .dnew t, ex, X, n, sc, W, es, x, c, tk => by
    cases ex with
    | Dict ks vs p =>
      cases ks with
      | cons _ _ => simp [chk] at c
      | nil =>
        cases vs with
        | cons _ _ => simp [chk] at c
        | nil =>
          cases t with
          | true =>
            refine snd_of (pe_dnewT.imp fun σ H Q ⟨F, hd, env, g, en, q⟩ => ?_)
            simp only [ev, if_true] at q
            exact q.dit (Ext.refl g) g.hand
          | false =>
            refine snd_of (pe_dnewK.imp fun σ H Q ⟨F, hd, env, g, en, q⟩ => ?_)
            simp only [ev, Bool.false_eq_true, if_false] at q
            exact R1.dik (ds := []) (vs := []) q (Ext.refl g) g.hand
    | _ => simp [chk] at c
  | .idx a i, ex, X, n, sc, W, es, x, c, tk => by
    cases ex with
    | Subscript y z p =>
      simp only [chk, Bool.and_eq_true, Bool.not_eq_true'] at c
      obtain ⟨c0, c1, c2⟩ := c
      have hp : PlainIx z := by
        intro o i
        cases z <;> first | rfl | (simp [isSlice] at c0)
      refine snd_of ((pe_ix (ix_any x.ub) (snd a y X n sc W es x c1 tk).1 (snd i z X n sc W es x c2 tk).1 hp).imp fun σ H Q ⟨F, hd, env, g, en, q⟩ => ?_)
      simp only [ev] at q
      exact tv2 g en q fun d1 d2 v w F' H' T1 T2 q e o1 o2 nn r1 r2 => idx_ok q e o1 r1 r2
    | _ => simp [chk] at c
  | .sl a lo hi, ex, X, n, sc, W, es, x, c, tk => by
    cases ex with
    | Subscript y z p =>
      cases z with
      | Slice l h st p2 =>
        cases st with
        | some _ => simp [chk] at c
        | none =>
          simp only [chk, Bool.and_eq_true] at c
          obtain ⟨c1, c2, c3⟩ := c
          refine snd_of ((pe_slice sl_any (snd a y X n sc W es x c1 tk).1 (sndO lo l X n sc W es x c2 tk) (sndO hi h X n sc W es x c3 tk)).imp fun σ H Q ⟨F, hd, env, g, en, q⟩ => ?_)
          simp only [ev] at q
          refine ⟨F, hd, env, g, en, ev_mono G a (fun d q v F1 H1 T x1 o r => ?_) (fun _ z => z) q⟩
          refine ⟨F1, hd, env, x1.good, en.later x1.sf, evO_mono G lo (fun l q F2 H2 x2 => ?_) (fun _ z => z.later x1) q⟩
          refine ⟨F2, hd, env, x2.good, (en.later (x1.trans x2).sf), evO_mono G hi (fun u q F3 H3 x3 => ?_) (fun _ z => z.later (x1.trans x2)) q⟩
          have x4 := (x1.trans x2).trans x3
          exact sl_ok q x4 g.hand (o.later g.hand (x2.trans x3)) (r.later o g.hand (x2.trans x3))
      | _ => simp [chk] at c
    | _ => simp [chk] at c
  | .rev a, ex, X, n, sc, W, es, x, c, tk => by
    cases ex with
    | Subscript y z p =>
      match z, c with
      | .Slice none none (some (.UnaryOp .USub (.Constant (.int 1) _ _) _)) _, c =>
        simp only [chk] at c
        refine snd_of ((pe_rev (snd a y X n sc W es x c tk).1).imp fun σ H Q ⟨F, hd, env, g, en, q⟩ => ?_)
        simp only [ev] at q
        refine ⟨F, hd, env, g, en, ev_mono G a (fun d q v F' H' T x o r => ?_) (fun _ z => z) q⟩
        obtain ⟨p, xs, rfl, h⟩ := rev_ok q x g.hand o r
        exact ⟨p, xs, rfl, h⟩
    | _ => simp [chk] at c
  | .call f as, ex, X, n, sc, W, es, x, c, tk => by
    cases ex with
    | Call fn ys kw p =>
      cases fn with
      | Name g0 p0 =>
        cases kw with
        | cons _ _ => cases ys <;> simp [chk] at c
        | nil =>
          cases ys with
          | nil => simp [chk] at c
          | cons y ys =>
            simp only [chk, Bool.and_eq_true, decide_eq_true_eq] at c
            obtain ⟨⟨⟨hf, hgd⟩, rfl, har⟩, ⟨hg, hk⟩, c2⟩ := c
            have st := chks_star c2
            have read : ∀ σ H Q, TV X G W (.call f as) σ H Q → tCallS (spOf X.K X.mg (G.ar f) (G.call f)) (fun σ c d H => W c d σ H) (TVs X G W as) σ H Q := fun σ H Q ⟨F, hd, env, g, en, q⟩ => by
              simp only [ev] at q
              refine ⟨F, hd, env, g, en, evs_mono G as (fun ds ⟨l, q⟩ v F' H' T x o r => ?_) (fun _ z => z) (evs_len G as q)⟩
              have x' := x.fz g.hand o
              exact ⟨fz F' H' T, hd, frs ds, x'.good, r.fz x.good.sub, by rw [frs_map, List.length_map, l, har], mc_mono (fun d q => q.later x') (fun e z => z.later x') q⟩
            by_cases hlt : f < G.gd
            · obtain ⟨fa, fd, ps, k, hm, hkp, hb, hle, F0⟩ := (x.call f hf hlt).ex
              have hr := x.room.mono hle
              exact snd_of ((pe_callS F0 hr (gl_of es hg) hm hkp hb (fun σ => passAt tk σ) (snds as (y :: ys) X n sc W es x c2 tk).1 (okName_db hk).1 (starEach_of (st y (by simp)) ys X.env) (noStars (fun z hz => st z (by simp [hz])) p X.env)).imp read)
            · have hrp : n.2.2 = true := by
                simpa [hlt] using hgd
              obtain ⟨fa, fd, ps, k, hm, hkp, hb, hle, F0⟩ := (x.callG f hf (Nat.le_of_not_lt hlt)).ex
              have hr := x.room.mono hle
              exact snd_of ((pe_callG F0 (x.gu hrp) hr (gl_of es hg) hm hkp hb (fun σ => passAt tk σ) (snds as (y :: ys) X n sc W es x c2 tk).1 (okName_db hk).1 (starEach_of (st y (by simp)) ys X.env) (noStars (fun z hz => st z (by simp [hz])) p X.env)).imp read)
      | _ => cases ys <;> cases kw <;> simp [chk] at c
    | _ => simp [chk] at c
  | .blt b as, ex, X, n, sc, W, es, x, c, tk => by
    cases ex with
    | Call fn ys kw p =>
      cases fn with
      | Name g0 p0 =>
        cases kw with
        | cons _ _ => cases ys <;> simp [chk] at c
        | nil =>
          cases ys with
          | nil => simp [chk] at c
          | cons y ys =>
            simp only [chk, Bool.and_eq_true, decide_eq_true_eq] at c
            obtain ⟨⟨rfl, hrp⟩, ⟨hg, hk⟩, c2⟩ := c
            have st := chks_star c2
            have hm : X.mg (Str.ofString (bName b)) = none := x.free _ (by cases b <;> decide)
            have hgu : b = .repr → X.A.guards = some [] := fun e => x.gu (by subst e; simpa using hrp)
            refine snd_of ((pe_blt x.calm x.ub hgu (gl_of es hg) hm (snds as (y :: ys) X n sc W es x c2 tk).1 (starEach_of (st y (by simp)) ys X.env) (noStars (fun z hz => st z (by simp [hz])) p X.env)).imp fun σ H Q ⟨F, hd, env, g, en, q⟩ => ?_)
            simp only [ev] at q
            exact ⟨F, hd, env, g, en, evs_mono G as (fun ds q v F' H' T x o r => blt_ok q x g.hand o r) (fun _ z => z) q⟩
      | _ => cases ys <;> cases kw <;> simp [chk] at c
    | _ => simp [chk] at c
  | .said f e, ex, X, n, sc, W, es, x, c, tk => by
    have c0 := c
    unfold chk at c
    split at c
    all_goals try contradiction
    rename_i heq
    cases heq
    exact snd_of (said_pe es x c0 (fun A outer s H E f' c' xok ch => (snd e _ _ (n.1, false, false) _ (fun c d σ H => E c d H) rfl xok ch (takes_of rfl rfl rfl rfl)).1))
  | .isi a t, ex, X, n, sc, W, es, x, c, tk => by
    cases ex with
    | Call fn ys kw p =>
      match fn, ys, kw, c with
      | .Name g0 _, [y, .Name u _], [], c =>
        simp only [chk, Bool.and_eq_true, decide_eq_true_eq, Bool.not_eq_true'] at c
        obtain ⟨⟨rfl, rfl⟩, ⟨hg, hu⟩, c1, c2⟩ := c
        have hm : X.mg (Str.ofString (tyName t)) = none := x.free _ (by cases t <;> decide)
        refine snd_of ((pe_isi (gl_of es hg) (x.free _ (by decide)) (gl_of es hu) hm (snd a y X n sc W es x c1 tk).1 fun es => starEach_of c2 es X.env).imp fun σ H Q ⟨F, hd, env, g, en, q⟩ => ?_)
        simp only [ev] at q
        refine ⟨F, hd, env, g, en, ev_mono G a (fun d q v F' H' T x o r => ?_) (fun _ z => z) q⟩
        obtain ⟨tn, h1, h2⟩ := Rep.tyOf x.good.sub x.good.hand r
        exact ⟨v, .ty (tyName t), .type tn, .type (tyName t), isiD d t, rfl, .ty _, h1, kit_ty (h2 t), q.val x rfl⟩
    | _ => simp [chk] at c
  | .lrng tp src, ex, X, n, sc, W, es, x, c, tk => by
    have c0 := c
    unfold chk at c
    split at c
    all_goals try contradiction
    rename_i heq
    cases heq
    rename_i g0 p0 r0 p1 xs p2 p3
    simp only [Bool.and_eq_true, decide_eq_true_eq, Bool.or_eq_true, beq_iff_eq] at c
    obtain ⟨⟨rfl, hg, hk⟩, ⟨rfl, hgr, hkr⟩, hl, c2⟩ := c
    have hmr := x.free "range" (by decide)
    match src, xs, hl, c2 with
    | [a], [y], hl, c2 =>
      simp only [chks, Bool.and_eq_true, Bool.not_eq_true'] at c2
      obtain ⟨s1, c3, _⟩ := c2
      exact snd_of ((pe_rgs x.calm (gl_of es hg) x.free (prg_1 (gl_of es hgr) hmr (snd a y X n _ W es x c3 tk).1 (starEach_of s1 [] X.env)) (starEach_of rfl [] X.env)).imp fun σ H Q ⟨F, hd, env, g, en, q⟩ => lrng1_read g en q)
    | [a, b], [y, z], hl, c2 =>
      simp only [chks, Bool.and_eq_true, Bool.not_eq_true'] at c2
      obtain ⟨s1, c3, s2, c4, _⟩ := c2
      exact snd_of ((pe_rgs x.calm (gl_of es hg) x.free (prg_2 (gl_of es hgr) hmr (snd a y X n _ W es x c3 tk).1 (snd b z X n _ W es x c4 tk).1 (starEach_of s1 [z] X.env) (starEach_of s2 [] X.env) (noStars (fun u hu => by rcases List.mem_singleton.mp hu with rfl; exact s2) _ X.env)) (starEach_of rfl [] X.env)).imp fun σ H Q ⟨F, hd, env, g, en, q⟩ => lrng2_read g en q)
    | [], _, hl, c2 => simp at hl
    | [_], [], hl, c2 => simp [chks] at c2
    | [_], _ :: _ :: _, hl, c2 => simp [chks] at c2
    | [_, _], [], hl, c2 => simp [chks] at c2
    | [_, _], [_], hl, c2 => simp [chks] at c2
    | [_, _], _ :: _ :: _ :: _, hl, c2 => simp [chks] at c2
    | _ :: _ :: _ :: _, _, hl, c2 => simp at hl
  | .mget a k v, ex, X, n, sc, W, es, x, c, tk => by
    have c0 := c
    unfold chk at c
    split at c
    all_goals try contradiction
    rename_i heq
    cases heq
    rename_i o m apos y z cpos
    simp only [Bool.and_eq_true, decide_eq_true_eq, Bool.not_eq_true'] at c
    obtain ⟨⟨rfl, hl, hn⟩, ⟨s1, s2⟩, c1, c2, c3⟩ := c
    have e0 : starEach [y, z] X.env = [(false, eval y X.env), (false, eval z X.env)] := by
      rw [starEach_of s1, starEach_of s2]
      rfl
    refine snd_of ((pe_dget2 (by have := x.ub; omega) (snd a o X n _ W es x c1 tk).1 (snd k y X n _ W es x c2 tk).1 (snd v z X n _ W es x c3 tk).1 ⟨?_, ?_, hl, ?_⟩).imp fun σ H Q ⟨F, hd, env, g, en, q⟩ => mget_read g en q)
    · cases o <;> first | rfl | (simp [isNm] at hn)
    · rw [e0]; rfl
    · rw [e0]; rfl
  | .dc own tg k src tc key val, ex, X, n, sc, W, es, x, c, tk => by
    cases ex with
    | DictComp y y2 gens scope p =>
      match gens, c with
      | [⟨t, it, ifs, asy⟩], c =>
        by_cases ha : asy = 0
        · subst ha
          simp only [chk, Bool.and_eq_true] at c
          obtain ⟨⟨cb, cn, cs⟩, ⟨ct, ci⟩, cc, ck, ce⟩ := c
          split at cs
          · rename_i xs hx
            obtain ⟨pa, pe1⟩ := snds src xs X n sc W es x cs tk
            have hpi := pi_src x es cn hx cs pa pe1 (t := t)
            subst es
            have hc' : ∀ (s : Shared) (H : Hp) (C : Addr) (cl : List (Str × Addr)) (fp : List Addr), XOk (X.blk s H scope (compEnvC scope cl C X.env) fp) G n := fun s H C cl fp => x.blk s H scope _ fp rfl rfl
            refine snd_of ((pe_dc x.calm x.nd hpi (blkOk_by cb) (g := TGv X.K tg) (tt := TCv X G tc) (tk := TV X G W0 key) (tv := TV X G W0 val) (fun s H C cl fp => ?_) (fun s H C cl fp => ?_) (fun s H C cl fp => ?_) (fun s H C cl fp => ?_) (fold_of (srcX_set hx) X.env)).imp fun σ H Q q => dc_read ci q)
            · exact pg_fro (pg_snd (ownSc_blk x.nd x.calm) tg t ct)
            · exact sndC tc ifs (X.blk s H scope (compEnvC scope cl C X.env) fp) n (relS scope X.env.scope) rfl (hc' s H C cl fp) cc
            · exact (snd key y (X.blk s H scope (compEnvC scope cl C X.env) fp) n (relS scope X.env.scope) W0 rfl (hc' s H C cl fp) ck takes0).1
            · exact (snd val y2 (X.blk s H scope (compEnvC scope cl C X.env) fp) n (relS scope X.env.scope) W0 rfl (hc' s H C cl fp) ce takes0).1
          · cases cs
        · exfalso
          unfold chk at c
          split at c
          all_goals first
            | (cases c; done)
            | skip
          all_goals simp_all
      | [], c => simp [chk] at c
      | _ :: _ :: _, c => simp [chk] at c
    | _ => simp [chk] at c
  | .lc own tg k src tc elt, ex, X, n, sc, W, es, x, c, tk => by
    cases ex with
    | ListComp y gens scope p =>
      match gens, c with
      | [⟨t, it, ifs, asy⟩], c =>
        by_cases ha : asy = 0
        · subst ha
          simp only [chk, Bool.and_eq_true] at c
          obtain ⟨⟨cb, cn, cs⟩, ⟨ct, ci⟩, cc, ce⟩ := c
          split at cs
          · rename_i xs hx
            obtain ⟨pa, pe1⟩ := snds src xs X n sc W es x cs tk
            have hpi := pi_src x es cn hx cs pa pe1 (t := t)
            subst es
            have hc' : ∀ (s : Shared) (H : Hp) (C : Addr) (cl : List (Str × Addr)) (fp : List Addr), XOk (X.blk s H scope (compEnvC scope cl C X.env) fp) G n := fun s H C cl fp => x.blk s H scope _ fp rfl rfl
            refine snd_of ((pe_lc x.calm x.nd hpi (blkOk_by cb) (g := TGv X.K tg) (tt := TCv X G tc) (te := TV X G W0 elt) (fun s H C cl fp => ?_) (fun s H C cl fp => ?_) (fun s H C cl fp => ?_) (fold_of (srcX_set hx) X.env)).imp fun σ H Q q => lc_read ci q)
            · exact pg_fro (pg_snd (ownSc_blk x.nd x.calm) tg t ct)
            · exact sndC tc ifs (X.blk s H scope (compEnvC scope cl C X.env) fp) n (relS scope X.env.scope) rfl (hc' s H C cl fp) cc
            · exact (snd elt y (X.blk s H scope (compEnvC scope cl C X.env) fp) n (relS scope X.env.scope) W0 rfl (hc' s H C cl fp) ce takes0).1
          · cases cs
        · exfalso
          unfold chk at c
          split at c
          all_goals first
            | (cases c; done)
            | skip
          all_goals simp_all
      | [], c => simp [chk] at c
      | _ :: _ :: _, c => simp [chk] at c
    | _ => simp [chk] at c
theorem sndO : ∀ (e : Option E) (ex : Option Expr) (X : Cx) (n : NB) (sc : Scope) (W : WX), X.env.scope = sc → XOk X G n → chkO G n X.N sc e ex = true → Takes X W → PO X ex (TVo X G W e)
  | none, none, X, n, sc, W, es, x, c, tk => po_none.imp fun σ H Q ⟨F, hd, env, g, en, q⟩ => by
      simp only [evO] at q
      exact q F H (Ext.refl g)
  | none, some _, X, n, sc, W, es, x, c, tk => by simp [chkO] at c
  | some _, none, X, n, sc, W, es, x, c, tk => by simp [chkO] at c
  | some e, some y, X, n, sc, W, es, x, c, tk => by
    simp only [chkO] at c
    refine (po_some (snd e y X n sc W es x c tk).1).imp fun σ H Q ⟨F, hd, env, g, en, q⟩ => ?_
    simp only [evO] at q
    refine ⟨F, hd, env, g, en, ev_mono G e (fun d ⟨i, e, q⟩ v F' H' T x o r => ?_) (fun _ z => z) q⟩
    subst e
    exact ⟨i, r, q F' H' x⟩
theorem sndC : ∀ (e : Option E) (ex : List Expr) (X : Cx) (n : NB) (sc : Scope), X.env.scope = sc → XOk X G n → chkC G n X.N sc e ex = true → PTs X ex (TCv X G e)
  | none, [], X, n, sc, es, x, c => pts_nil.imp fun σ H Q ⟨F, hd, env, g, en, q⟩ => by
      simp only [evC] at q
      exact q F H (Ext.refl g)
  | none, _ :: _, X, n, sc, es, x, c => by simp [chkC] at c
  | some _, [], X, n, sc, es, x, c => by simp [chkC] at c
  | some _, _ :: _ :: _, X, n, sc, es, x, c => by simp [chkC] at c
  | some e, [y], X, n, sc, es, x, c => by
    simp only [chkC] at c
    refine (pts_one (snd e y X n sc W0 es x c takes0).2).imp fun σ H Q ⟨F, hd, env, g, en, q⟩ => ?_
    simp only [evC] at q
    exact ⟨F, hd, env, g, en, ev_mono G e (fun d ⟨b, e, q⟩ v F' H' T x o r => ⟨b, truth_ok x.good.sub r e, q F' H' x⟩) (fun _ z => z.elim) q⟩
theorem sndAnd : ∀ (e : List E) (ex : List Expr) (p : Pos) (X : Cx) (n : NB) (sc : Scope) (W : WX), X.env.scope = sc → XOk X G n → chks G n X.N sc e ex = true → Takes X W → PE X (.BoolOp .And ex p) (TVand X G W e) ∧ PW X (.BoolOp .And ex p) fun σ H Q => TVand X G W e σ H (Tru X.K Q)
  | [], ex, p, X, n, sc, W, es, x, c, tk => ⟨⟨fun pins s σ H Q I ⟨F, hd, env, g, en, q⟩ => by simp only [evAnd] at q⟩, ⟨fun wh pins s σ H Q I ⟨F, hd, env, g, en, q⟩ => by simp only [evAnd] at q⟩⟩
  | _ :: _, [], p, X, n, sc, W, es, x, c, tk => by simp [chks] at c
  | [e], [y], p, X, n, sc, W, es, x, c, tk => by
    simp only [chks, Bool.and_eq_true] at c
    obtain ⟨h1, h2⟩ := snd e y X n sc W es x c.2.1 tk
    refine ⟨(pe_one h1).imp fun σ H Q ⟨F, hd, env, g, en, q⟩ => ?_, (pw_and1 h2).imp fun σ H Q ⟨F, hd, env, g, en, q⟩ => ?_⟩
    · simp only [evAnd] at q
      exact ⟨F, hd, env, g, en, q⟩
    · simp only [evAnd] at q
      exact ⟨F, hd, env, g, en, q⟩
  | [_], _ :: _ :: _, p, X, n, sc, W, es, x, c, tk => by simp [chks] at c
  | _ :: _ :: _, [_], p, X, n, sc, W, es, x, c, tk => by simp [chks] at c
  | e :: e' :: r, y :: y' :: ys, p, X, n, sc, W, es, x, c, tk => by
    rw [chks] at c
    simp only [Bool.and_eq_true] at c
    obtain ⟨h1, h2⟩ := snd e y X n sc W es x c.2.1 tk
    obtain ⟨h3, h4⟩ := sndAnd (e' :: r) (y' :: ys) p X n sc W es x c.2.2 tk
    refine ⟨(pe_and h1 h3).imp fun σ H Q ⟨F, hd, env, g, en, q⟩ => ?_, (pw_and h2 h4).imp fun σ H Q ⟨F, hd, env, g, en, q⟩ => ?_⟩
    · rw [and_of] at q
      refine ⟨F, hd, env, g, en, ev_mono G e (fun d ⟨b, ed, q⟩ v F' H' T x1 o r => ?_) (fun _ z => z) q⟩
      subst ed
      refine ⟨b, r, ?_⟩
      cases b with
      | true =>
        simp only [if_true] at q
        exact iteT ⟨F', hd, env, x1.good, en.later x1.sf, evAnd_mono G _ (fun d q => q.later x1) (fun _ z => z.later x1) q⟩
      | false =>
        simp only [Bool.false_eq_true, if_false] at q
        exact iteF (q.val x1 rfl)
    · rw [and_of] at q
      refine tv_test g en q fun d ⟨b, ed, q⟩ => ⟨b, ed, fun F' H' x1 => ?_⟩
      cases b with
      | true =>
        simp only [if_true] at q
        exact iteT ⟨F', hd, env, x1.good, en.later x1.sf, evAnd_mono G _ (fun d q => q.later x1) (fun _ z => z.later x1) q⟩
      | false =>
        simp only [Bool.false_eq_true, if_false] at q
        refine iteF ?_
        obtain ⟨k, e1, q⟩ := R1.bl q _ _ _ _ x1 Own.none (show Rep X.K F' H' hd (.bl false) (.bl false) (fun _ => False) from rfl)
        cases e1
        exact q
theorem sndOr : ∀ (e : List E) (ex : List Expr) (p : Pos) (X : Cx) (n : NB) (sc : Scope) (W : WX), X.env.scope = sc → XOk X G n → chks G n X.N sc e ex = true → Takes X W → PE X (.BoolOp .Or ex p) (TVor X G W e) ∧ PW X (.BoolOp .Or ex p) fun σ H Q => TVor X G W e σ H (Tru X.K Q)
  | [], ex, p, X, n, sc, W, es, x, c, tk => ⟨⟨fun pins s σ H Q I ⟨F, hd, env, g, en, q⟩ => by simp only [evOr] at q⟩, ⟨fun wh pins s σ H Q I ⟨F, hd, env, g, en, q⟩ => by simp only [evOr] at q⟩⟩
  | _ :: _, [], p, X, n, sc, W, es, x, c, tk => by simp [chks] at c
  | [e], [y], p, X, n, sc, W, es, x, c, tk => by
    simp only [chks, Bool.and_eq_true] at c
    obtain ⟨h1, h2⟩ := snd e y X n sc W es x c.2.1 tk
    refine ⟨(pe_one h1).imp fun σ H Q ⟨F, hd, env, g, en, q⟩ => ?_, (pw_or1 h2).imp fun σ H Q ⟨F, hd, env, g, en, q⟩ => ?_⟩
    · simp only [evOr] at q
      exact ⟨F, hd, env, g, en, q⟩
    · simp only [evOr] at q
      exact ⟨F, hd, env, g, en, q⟩
  | [_], _ :: _ :: _, p, X, n, sc, W, es, x, c, tk => by simp [chks] at c
  | _ :: _ :: _, [_], p, X, n, sc, W, es, x, c, tk => by simp [chks] at c
  | e :: e' :: r, y :: y' :: ys, p, X, n, sc, W, es, x, c, tk => by
    rw [chks] at c
    simp only [Bool.and_eq_true] at c
    obtain ⟨h1, h2⟩ := snd e y X n sc W es x c.2.1 tk
    obtain ⟨h3, h4⟩ := sndOr (e' :: r) (y' :: ys) p X n sc W es x c.2.2 tk
    refine ⟨(pe_or h1 h3).imp fun σ H Q ⟨F, hd, env, g, en, q⟩ => ?_, (pw_or h2 h4).imp fun σ H Q ⟨F, hd, env, g, en, q⟩ => ?_⟩
    · rw [or_of] at q
      refine ⟨F, hd, env, g, en, ev_mono G e (fun d ⟨b, ed, q⟩ v F' H' T x1 o r => ?_) (fun _ z => z) q⟩
      subst ed
      refine ⟨b, r, ?_⟩
      cases b with
      | true =>
        simp only [if_true] at q
        exact iteT (q.val x1 rfl)
      | false =>
        simp only [Bool.false_eq_true, if_false] at q
        exact iteF ⟨F', hd, env, x1.good, en.later x1.sf, evOr_mono G _ (fun d q => q.later x1) (fun _ z => z.later x1) q⟩
    · rw [or_of] at q
      refine tv_test g en q fun d ⟨b, ed, q⟩ => ⟨b, ed, fun F' H' x1 => ?_⟩
      cases b with
      | true =>
        simp only [if_true] at q
        refine iteT ?_
        obtain ⟨k, e1, q⟩ := R1.bl q _ _ _ _ x1 Own.none (show Rep X.K F' H' hd (.bl true) (.bl true) (fun _ => False) from rfl)
        cases e1
        exact q
      | false =>
        simp only [Bool.false_eq_true, if_false] at q
        exact iteF ⟨F', hd, env, x1.good, en.later x1.sf, evOr_mono G _ (fun d q => q.later x1) (fun _ z => z.later x1) q⟩
theorem snds : ∀ (e : List E) (ex : List Expr) (X : Cx) (n : NB) (sc : Scope) (W : WX), X.env.scope = sc → XOk X G n → chks G n X.N sc e ex = true → Takes X W → PA X ex (TVs X G W e) ∧ ∀ e' y, e = [e'] → ex = [y] → PE X y (TV X G W e')
  | [], [], X, n, sc, W, es, x, c, tk => ⟨pa_nil.imp fun σ H Q ⟨F, hd, env, g, en, q⟩ => by
      simp only [evs] at q
      exact q [] F H (fun _ => False) (Ext.refl g) Own.none rfl, fun _ _ h _ => nomatch h⟩
  | [], _ :: _, X, n, sc, W, es, x, c, tk => by simp [chks] at c
  | _ :: _, [], X, n, sc, W, es, x, c, tk => by simp [chks] at c
  | e :: es', y :: ys, X, n, sc, W, es, x, c, tk => by
    simp only [chks, Bool.and_eq_true, Bool.not_eq_true'] at c
    obtain ⟨c0, c1, c2⟩ := c
    have h1 := (snd e y X n sc W es x c1 tk).1
    obtain ⟨h2, _⟩ := snds es' ys X n sc W es x c2 tk
    refine ⟨(pa_cons h1 h2 (starEach_of c0 ys X.env)).imp fun σ H Q ⟨F, hd, env, g, en, q⟩ => ?_, fun e' z ee ez => ?_⟩
    · simp only [evs] at q
      refine ⟨F, hd, env, g, en, ev_mono G e (fun d q v F1 H1 T1 x1 o1 r1 => ?_) (fun _ z => z) q⟩
      refine ⟨F1, hd, env, x1.good, en.later x1.sf, evs_mono G es' (fun ds q vs F2 H2 T2 x2 o2 r2 => ?_) (fun _ z => z.later x1) q⟩
      exact q (v :: vs) F2 H2 (fun a => T1 a ∨ T2 a) (x1.trans x2) (Own.or (o1.later g.hand x2) (Own.first x1 o2)) ⟨v, vs, T1, T2, rfl, fun _ t => .inl t, fun _ t => .inr t, Own.apart o1 o2, r1.later o1 g.hand x2, r2⟩
    · cases ee
      cases ez
      exact h1
end
end
end Wk
end sec_W10

section sec_W11
set_option Elab.async false
set_option linter.all false
set_option maxRecDepth 100000
set_option maxHeartbeats 8000000
namespace Wk
open PySem PySem.Spec PyProof.Rows L2
variable [Tab]
/-! ## the state of a body -/
structure Rel (K : Frag) (hd : Option Addr) (F0 H0 : Hp) (M : ASet) (F H : Hp) (env : Env') (σ : L2.St) (P : Nat → ASet) : Prop where
  good : Good K hd F H
  len : env.length = σ.length
  get : ∀ (i : Nat) (d : D), env[i]? = some (some d) → ∃ v, σ[i]? = some (some v) ∧ Rep K F H hd d v (P i)
  own : ∀ i a, P i a → F a = none ∧ (FN H0 a ∨ M a) ∧ hd ≠ some a ∧ ∃ o, H a = some o ∧ noTup o = true
  apart : ∀ i j a, i ≠ j → P i a → ¬ P j a
  sf : Same F0 F
  keep : ∀ a o, H0 a = some o → ¬ M a → hd ≠ some a → NT o → H a = some o
  nof : ∀ a o, H0 a = some o → ¬ M a → NT o → F0 a = none → F a = none
  hc : ∀ a c r, hd = some a → H0 a = some (.lst (.ref c :: r)) → ∃ r', H a = some (.lst (.ref c :: r'))
  pin : ∀ a, M a → hd ≠ some a ∧ σ[0]? = some (some (.ref a)) ∧ ∀ c r, H0 a = some (.lst (.ref c :: r)) → ∃ r', H a = some (.lst (.ref c :: r'))
/-- what a state owns -/
def PA (P : Nat → ASet) : ASet := fun a => ∃ i, P i a
def PL (P : Nat → ASet) (L : List Nat) : ASet := fun a => ∃ i, L.contains i = true ∧ P i a
open Classical in
noncomputable def unfz (F : Hp) (T : ASet) : Hp := fun a => if T a then none else F a
open Classical in
theorem unfz_in {F : Hp} {T : ASet} {a : Addr} (t : T a) : unfz F T a = none := by unfold unfz; rw [if_pos t]
open Classical in
theorem unfz_out {F : Hp} {T : ASet} {a : Addr} (t : ¬ T a) : unfz F T a = F a := by unfold unfz; rw [if_neg t]
def restr (L : List Nat) : Nat → Env' → Env'
  | _, [] => []
  | k, x :: xs => (if L.contains k = true then x else none) :: restr L (k + 1) xs
def frzL (L : List Nat) : Nat → Env' → Env'
  | _, [] => []
  | k, x :: xs => (if L.contains k = true then x.map fr else x) :: frzL L (k + 1) xs
theorem restr_len (L : List Nat) : ∀ (k : Nat) (env : Env'), (restr L k env).length = env.length
  | _, [] => rfl
  | k, x :: xs => by simp [restr, restr_len L (k + 1) xs]
theorem frzL_len (L : List Nat) : ∀ (k : Nat) (env : Env'), (frzL L k env).length = env.length
  | _, [] => rfl
  | k, x :: xs => by simp [frzL, frzL_len L (k + 1) xs]
theorem restr_get {L : List Nat} : ∀ {env : Env'} {k i : Nat} {d : D}, (restr L k env)[i]? = some (some d) → L.contains (k + i) = true ∧ env[i]? = some (some d)
  | [], k, i, d, h => by simp [restr] at h
  | x :: xs, k, 0, d, h => by
    simp only [restr, List.getElem?_cons_zero, Option.some.injEq] at h
    split at h
    · rename_i hc
      exact ⟨by simpa using hc, by simp [h]⟩
    · cases h
  | x :: xs, k, i + 1, d, h => by
    simp only [restr, List.getElem?_cons_succ] at h
    obtain ⟨h1, h2⟩ := restr_get (k := k + 1) h
    exact ⟨by rw [show k + (i + 1) = k + 1 + i by omega]; exact h1, by simpa using h2⟩
theorem frzL_get {L : List Nat} : ∀ {env : Env'} {k i : Nat} {d : D}, (frzL L k env)[i]? = some (some d) → ∃ d', env[i]? = some (some d') ∧ d = if L.contains (k + i) = true then fr d' else d'
  | [], k, i, d, h => by simp [frzL] at h
  | x :: xs, k, 0, d, h => by
    simp only [frzL, List.getElem?_cons_zero, Option.some.injEq] at h
    split at h
    · rename_i hc
      obtain ⟨d', rfl, rfl⟩ := Option.map_eq_some_iff.mp h
      exact ⟨d', rfl, by rw [Nat.add_zero, if_pos hc]⟩
    · rename_i hc
      exact ⟨d, by simp [h], by rw [Nat.add_zero, if_neg hc]⟩
  | x :: xs, k, i + 1, d, h => by
    simp only [frzL, List.getElem?_cons_succ] at h
    obtain ⟨d', h1, h2⟩ := frzL_get (k := k + 1) h
    exact ⟨d', by simpa using h1, by rw [show k + (i + 1) = k + 1 + i by omega]; exact h2⟩
/-- what is new, somebody's own, and nobody's of the state -/
def TOk (H0 : Hp) (M : ASet) (hd : Option Addr) (F H : Hp) (P : Nat → ASet) (T : ASet) : Prop := ∀ a, T a → F a = none ∧ (FN H0 a ∨ M a) ∧ hd ≠ some a ∧ (∃ o, H a = some o ∧ noTup o = true) ∧ ∀ i, ¬ P i a
section
variable {K : Frag} {hd : Option Addr} {F0 H0 F H F1 H1 : Hp} {M : ASet} {env : Env'} {σ : L2.St} {P : Nat → ASet}
theorem Rel.there {a : Addr} {o : HO} (r : Rel K hd F0 H0 M F H env σ P) (q : H0 a = some o) (m : ¬ M a) (t : NT o) : ∃ o', H a = some o' ∧ NT o' := by
  by_cases n : hd = some a
  · exact r.good.hand.there n
  · exact ⟨o, r.keep a o q m n t, t⟩
theorem Rel.nt {i : Nat} {a : Addr} {u : HO} (r : Rel K hd F0 H0 M F H env σ P) (t : P i a) (q : H a = some u) : NT u := by
  obtain ⟨_, _, _, o, h3, h4⟩ := r.own i a t
  rw [q] at h3
  cases h3
  exact NT.of h4
theorem TOk.nt {T : ASet} {a : Addr} {u : HO} (h : TOk H0 M hd F H P T) (t : T a) (q : H a = some u) : NT u := by
  obtain ⟨_, _, _, ⟨o, h3, h4⟩, _⟩ := h a t
  rw [q] at h3
  cases h3
  exact NT.of h4
theorem Rel.pgood (r : Rel K hd F0 H0 M F H env σ P) : Good K hd (fz F H (PA P)) H := r.good.fz (fun a ⟨i, p⟩ => (r.own i a p).2.2.1) fun a o ⟨i, p⟩ q => r.nt p q
theorem Rel.penv (r : Rel K hd F0 H0 M F H env σ P) : EnvF K (fz F H (PA P)) H hd env σ := ⟨r.len, fun i d e => by
  obtain ⟨v, q, p⟩ := r.get i d e
  exact ⟨v, q, Rep.sub (Rep.fr (fz_sub r.good.sub) (T' := fun _ => False) p fun a o t q => by rw [fz_in ⟨i, t⟩]; exact q) fun _ t => t⟩⟩
/-- behind an evaluation -/
theorem Rel.back {T : ASet} (r : Rel K hd F0 H0 M F H env σ P) (x : Ext K hd (fz F H (PA P)) H F1 H1) (o : Own F1 H H1 T) :
    Rel K hd F0 H0 M (unfz F1 (PA P)) H1 env σ P ∧ TOk H0 M hd (unfz F1 (PA P)) H1 P T ∧ (∀ {d : D} {v : V} {T' : ASet}, cl d = true → Rep K F1 H1 hd d v T' → Rep K (unfz F1 (PA P)) H1 hd d v T') ∧ Same F (unfz F1 (PA P)) := by
  have up : ∀ a, PA P a → ∃ o, H1 a = some o ∧ noTup o = true := fun a ⟨i, p⟩ => by
    obtain ⟨_, _, n, o, q, t⟩ := r.own i a p
    exact ⟨o, x.keep a o n q (NT.of t), t⟩
  have sF : Same F (unfz F1 (PA P)) := fun a o q => by
    have n : ¬ PA P a := fun ⟨i, p⟩ => by
      rw [(r.own i a p).1] at q; cases q
    rw [unfz_out n]
    exact x.sf _ _ (by rw [fz_out n]; exact q)
  have sH : Same (unfz F1 (PA P)) H1 := fun a o q => by
    by_cases n : PA P a
    · rw [unfz_in n] at q; cases q
    · rw [unfz_out n] at q
      exact x.good.sub a o q
  refine ⟨⟨⟨sH, fun a e => ?_, x.good.tab, fun a o q => by
    by_cases n : PA P a
    · rw [unfz_in n] at q; cases q
    · rw [unfz_out n] at q; exact x.good.fnt a o q⟩, r.len, fun i d e => ?_, fun i a p => ?_, r.apart, r.sf.trans sF, fun a o q m n t => x.keep a o n (r.keep a o q m n t) t, fun a o q m t f => ?_, fun a c s e q => ?_, fun a m => ?_⟩, fun a t => ?_, fun c q => Rep.cl (fun a vs q => ?_) c q, sF⟩
  · obtain ⟨h1, c, cs, i, b, m, k, h2, h3, h4⟩ := x.good.hand a e
    have n : ¬ PA P a := fun ⟨i, p⟩ => (r.own i a p).2.2.1 e
    obtain ⟨_, c0, cs0, i0, b0, m0, k0, g2, g3, g4⟩ := r.good.hand a e
    refine ⟨by rw [unfz_out n]; exact h1, c, cs, i, b, m, k, h2, ?_, h4⟩
    have nc : ¬ PA P c := fun ⟨j, p⟩ => by
      obtain ⟨r', e2⟩ := x.hc a c0 _ e g2
      rw [h2] at e2
      injection e2 with e2
      injection e2 with e2
      injection e2 with e3
      injection e3 with e3
      subst e3
      rw [(r.own j c p).1] at g3; cases g3
    rw [unfz_out nc]; exact h3
  · obtain ⟨v, q, p⟩ := r.get i d e
    exact ⟨v, q, Rep.mono sF p (fun a u t q => x.keep a u (r.own i a t).2.2.1 q (r.nt t q)) fun _ t => t⟩
  · obtain ⟨h1, h2, h3, o, h4, h5⟩ := r.own i a p
    exact ⟨unfz_in ⟨i, p⟩, h2, h3, o, x.keep a o h3 h4 (NT.of h5), h5⟩
  · by_cases n : PA P a
    · exact unfz_in n
    · rw [unfz_out n]
      obtain ⟨o', q', t'⟩ := r.there q m t
      exact x.nof a o' q' t' (by rw [fz_out n]; exact r.nof a o q m t f)
  · obtain ⟨r', q'⟩ := r.hc a c s e q
    exact x.hc a c r' e q'
  · obtain ⟨h1, h2, h3⟩ := r.pin a m
    refine ⟨h1, h2, fun c s q => ?_⟩
    obtain ⟨s', q'⟩ := h3 c s q
    exact ⟨s', x.keep a _ h1 q' NT.lst⟩
  · obtain ⟨h1, h2, o', h3, h4⟩ := o a t
    have np : ¬ PA P a := fun ⟨i, p⟩ => by
      obtain ⟨_, _, _, u, q, k⟩ := r.own i a p
      exact h1 u q (NT.of k)
    refine ⟨by rw [unfz_out np]; exact h2, ?_, Own.notHand r.good.hand o t, ⟨o', h3, h4⟩, fun i p => np ⟨i, p⟩⟩
    by_cases m : M a
    · exact .inr m
    · exact .inl fun u q nt => by
        obtain ⟨u', q', nt'⟩ := r.there q m nt
        exact h1 u' q' nt'
  · have np : ¬ PA P a := fun p => by
      obtain ⟨o', q', t⟩ := up a p
      have := x.good.sub a _ q
      rw [q'] at this
      cases this
      cases t
    rw [unfz_out np]; exact q
end
end Wk
end sec_W11

section sec_W12
set_option Elab.async false
set_option linter.all false
set_option maxRecDepth 100000
set_option maxHeartbeats 8000000
namespace Wk
open PySem PySem.Spec PyProof.Rows L2
variable [Tab]
section
variable {K : Frag} {hd : Option Addr} {F0 H0 F H F1 H1 : Hp} {M : ASet} {env : Env'} {σ : L2.St} {P : Nat → ASet}
/-! ## an evaluation whose names are given away -/
theorem Rel.pgoodL (L : List Nat) (r : Rel K hd F0 H0 M F H env σ P) : Good K hd (fz F H (PL P L)) H := r.good.fz (fun a ⟨i, _, p⟩ => (r.own i a p).2.2.1) fun a o ⟨i, _, p⟩ q => r.nt p q
theorem Rel.penvL (L : List Nat) (r : Rel K hd F0 H0 M F H env σ P) : EnvF K (fz F H (PL P L)) H hd (restr L 0 env) σ := ⟨by rw [restr_len, r.len], fun i d e => by
  obtain ⟨c, e⟩ := restr_get e
  rw [Nat.zero_add] at c
  obtain ⟨v, q, p⟩ := r.get i d e
  exact ⟨v, q, Rep.sub (Rep.fr (fz_sub r.good.sub) (T' := fun _ => False) p fun a o t q => by rw [fz_in ⟨i, c, t⟩]; exact q) fun _ t => t⟩⟩
def PN (P : Nat → ASet) (L : List Nat) : Nat → ASet := fun i a => L.contains i = false ∧ P i a
theorem Rel.backL {T : ASet} {L : List Nat} (r : Rel K hd F0 H0 M F H env σ P) (x : Ext K hd (fz F H (PL P L)) H F1 H1) (o : Own F1 H H1 T) :
    Rel K hd F0 H0 M F1 H1 (frzL L 0 env) σ (PN P L) ∧ TOk H0 M hd F1 H1 (PN P L) T := by
  have sF : Same F F1 := (fz_sub r.good.sub).trans x.sf
  have nL : ∀ i a, PN P L i a → ¬ PL P L a := fun i a ⟨c, p⟩ ⟨j, c', p'⟩ => by
    by_cases e : i = j
    · subst e
      rw [c] at c'; cases c'
    · exact r.apart i j a e p p'
  refine ⟨⟨x.good, by rw [frzL_len, r.len], fun i d e => ?_, fun i a p => ?_, fun i j a n p p' => r.apart i j a n p.2 p'.2, r.sf.trans sF, fun a o q m n t => x.keep a o n (r.keep a o q m n t) t, fun a o q m t f => ?_, fun a c s e q => ?_, fun a m => ?_⟩, fun a t => ?_⟩
  · obtain ⟨d', e1, e2⟩ := frzL_get e
    rw [Nat.zero_add] at e2
    obtain ⟨v, q, p⟩ := r.get i d' e1
    refine ⟨v, q, ?_⟩
    by_cases c : L.contains i = true
    · rw [if_pos c] at e2
      subst e2
      refine Rep.sub (Rep.fr sF (T' := fun _ => False) p fun a u t q => ?_) fun _ t => t.elim
      exact x.sf _ _ (by rw [fz_in ⟨i, c, t⟩]; exact q)
    · rw [if_neg c] at e2
      subst e2
      exact Rep.mono sF p (fun a u t q => x.keep a u (r.own i a t).2.2.1 q (r.nt t q)) fun a t => ⟨by simpa using c, t⟩
  · obtain ⟨h1, h2, h3, o, h4, h5⟩ := r.own i a p.2
    exact ⟨x.nof a o h4 (NT.of h5) (by rw [fz_out (nL i a p)]; exact h1), h2, h3, o, x.keep a o h3 h4 (NT.of h5), h5⟩
  · obtain ⟨o', q', t'⟩ := r.there q m t
    have n : ¬ PL P L a := fun ⟨i, c, p⟩ => by
      rcases (r.own i a p).2.1 with z | z
      · exact z o q t
      · exact m z
    exact x.nof a o' q' t' (by rw [fz_out n]; exact r.nof a o q m t f)
  · obtain ⟨r', q'⟩ := r.hc a c s e q
    exact x.hc a c r' e q'
  · obtain ⟨h1, h2, h3⟩ := r.pin a m
    refine ⟨h1, h2, fun c s q => ?_⟩
    obtain ⟨s', q'⟩ := h3 c s q
    exact ⟨s', x.keep a _ h1 q' NT.lst⟩
  · obtain ⟨h1, h2, o', h3, h4⟩ := o a t
    refine ⟨h2, ?_, Own.notHand r.good.hand o t, ⟨o', h3, h4⟩, fun i p => ?_⟩
    · by_cases m : M a
      · exact .inr m
      · exact .inl fun u q nt => by
          obtain ⟨u', q', nt'⟩ := r.there q m nt
          exact h1 u' q' nt'
    · obtain ⟨_, _, _, u, q, k⟩ := r.own i a p.2
      exact h1 u q (NT.of k)
theorem Rel.backA {T : ASet} {f : Option D → Option D} (hf : f = (fun _ => none) ∨ f = Option.map fr) (r : Rel K hd F0 H0 M F H env σ P) (x : Ext K hd (fz F H (PA P)) H F1 H1) (o : Own F1 H H1 T) :
    Rel K hd F0 H0 M F1 H1 (env.map f) σ (fun _ _ => False) ∧ TOk H0 M hd F1 H1 (fun _ _ => False) T := by
  have sF : Same F F1 := (fz_sub r.good.sub).trans x.sf
  refine ⟨⟨x.good, by simp [r.len], fun i d e => ?_, fun i a p => p.elim, fun i j a n p => p.elim, r.sf.trans sF, fun a o q m n t => x.keep a o n (r.keep a o q m n t) t, fun a o q m t f => ?_, fun a c s e q => ?_, fun a m => ?_⟩, fun a t => ?_⟩
  · rw [List.getElem?_map] at e
    rcases hf with hf | hf <;> subst hf
    · cases q : env[i]? with
      | none => rw [q] at e; cases e
      | some y => rw [q] at e; cases e
    · cases q : env[i]? with
      | none => rw [q] at e; cases e
      | some y =>
        rw [q] at e
        cases y with
        | none => cases e
        | some d' =>
          cases e
          obtain ⟨v, q, p⟩ := r.get i d' q
          exact ⟨v, q, Rep.sub (Rep.fr sF (T' := fun _ => False) p fun a u t q => x.sf _ _ (by rw [fz_in ⟨i, t⟩]; exact q)) fun _ t => t.elim⟩
  · obtain ⟨o', q', t'⟩ := r.there q m t
    have n : ¬ PA P a := fun ⟨i, p⟩ => by
      rcases (r.own i a p).2.1 with z | z
      · exact z o q t
      · exact m z
    exact x.nof a o' q' t' (by rw [fz_out n]; exact r.nof a o q m t f)
  · obtain ⟨s', q'⟩ := r.hc a c s e q
    exact x.hc a c s' e q'
  · obtain ⟨h1, h2, h3⟩ := r.pin a m
    refine ⟨h1, h2, fun c s q => ?_⟩
    obtain ⟨s', q'⟩ := h3 c s q
    exact ⟨s', x.keep a _ h1 q' NT.lst⟩
  · obtain ⟨h1, h2, o', h3, h4⟩ := o a t
    refine ⟨h2, ?_, Own.notHand r.good.hand o t, ⟨o', h3, h4⟩, fun i p => p⟩
    by_cases m : M a
    · exact .inr m
    · exact .inl fun u q nt => by
        obtain ⟨u', q', nt'⟩ := r.there q m nt
        exact h1 u' q' nt'
/-! ## stores -/
/-- other data at the name i -/
theorem Rel.set {i : Nat} {d : D} {v : V} {T : ASet} (hm : ∀ a, M a → i ≠ 0) (r : Rel K hd F0 H0 M F H env σ P) (p : Rep K F H hd d v T) (t : TOk H0 M hd F H P T) :
    Rel K hd F0 H0 M F H (env.set i (some d)) (σ.set i (some v)) (fun j a => if j = i then T a else P j a) where
  good := r.good
  len := by simp [r.len]
  get := fun j d' e => by
    by_cases ij : i = j
    · subst ij
      by_cases hi : i < env.length
      · rw [List.getElem?_set_self hi] at e
        cases e
        exact ⟨v, by rw [List.getElem?_set_self (by rw [← r.len]; exact hi)], p.sub fun a t => by simpa using t⟩
      · rw [List.getElem?_eq_none (by simpa using hi)] at e; cases e
    · rw [List.getElem?_set_ne ij] at e
      obtain ⟨u, e1, e2⟩ := r.get j d' e
      exact ⟨u, by rw [List.getElem?_set_ne ij]; exact e1, e2.sub fun a t => by simpa [Ne.symm ij] using t⟩
  own := fun j a q => by
    by_cases ij : j = i
    · simp only [ij, if_true] at q
      obtain ⟨h1, h2, h3, h4, _⟩ := t a q
      exact ⟨h1, h2, h3, h4⟩
    · simp only [ij, if_false] at q
      exact r.own j a q
  apart := fun j k a n q q' => by
    by_cases ij : j = i
    · subst ij
      simp only [if_true] at q
      have nk : ¬ k = j := fun z => n z.symm
      simp only [nk, if_false] at q'
      exact (t a q).2.2.2.2 k q'
    · simp only [ij, if_false] at q
      by_cases ik : k = i
      · simp only [ik, if_true] at q'
        exact (t a q').2.2.2.2 j q
      · simp only [ik, if_false] at q'
        exact r.apart j k a n q q'
  sf := r.sf
  keep := r.keep
  nof := r.nof
  hc := r.hc
  pin := fun a m => by
    obtain ⟨h1, h2, h3⟩ := r.pin a m
    exact ⟨h1, by rw [List.getElem?_set_ne (hm a m)]; exact h2, h3⟩
mutual
def tg0 : Tg → Bool
  | .name i => i == 0
  | .tup ts => tgs0 ts
def tgs0 : List Tg → Bool
  | [] => false
  | t :: ts => tg0 t || tgs0 ts
end
theorem TOk.set {i : Nat} {T T' : ASet} (t : TOk H0 M hd F H P T') (n : ∀ a, T' a → ¬ T a) : TOk H0 M hd F H (fun j a => if j = i then T a else P j a) T' := fun a q => by
  obtain ⟨h1, h2, h3, h4, h5⟩ := t a q
  refine ⟨h1, h2, h3, h4, fun j p => ?_⟩
  by_cases ij : j = i
  · simp only [ij, if_true] at p
    exact n a q p
  · simp only [ij, if_false] at p
    exact h5 j p
theorem TOk.sub {T T' : ASet} (t : TOk H0 M hd F H P T) (s : ∀ a, T' a → T a) : TOk H0 M hd F H P T' := fun a q => t a (s a q)
mutual
theorem Rel.bind : ∀ (tg : Tg) (_ : ∀ a, M a → tg0 tg = false) {d : D} {v : V} {env env' : Env'} {σ : L2.St} {P : Nat → ASet} {T : ASet}, Rel K hd F0 H0 M F H env σ P → Rep K F H hd d v T → TOk H0 M hd F H P T → bindT tg d env = some env' →
    ∃ σ' P', bindV H tg v σ = some σ' ∧ Rel K hd F0 H0 M F H env' σ' P' ∧ ∀ T', TOk H0 M hd F H P T' → (∀ a, T' a → ¬ T a) → TOk H0 M hd F H P' T'
  | .name i, hm, d, v, env, env', σ, P, T, r, p, t, b => by
    simp only [bindT, Option.some.injEq] at b
    subst b
    exact ⟨_, _, rfl, r.set (fun a m => by simpa [tg0] using hm a m) p t, fun T' t' n => t'.set n⟩
  | .tup ts, hm, .tup ds, v, env, env', σ, P, T, r, p, t, b => by
    obtain ⟨a, vs, rfl, hp, rs⟩ := p.tupH r.good.sub
    obtain ⟨σ', P', b1, b2, b3⟩ := Rel.binds ts (fun a m => by simpa [tg0] using hm a m) r rs t (by simpa [bindT] using b)
    exact ⟨σ', P', by simp only [bindV, hp]; exact b1, b2, b3⟩
  | .tup ts, hm, .lst o ds, v, env, env', σ, P, T, r, p, t, b => by
    obtain ⟨a, vs, rfl, hp, rs⟩ := p.lstH r.good.sub
    obtain ⟨σ', P', b1, b2, b3⟩ := Rel.binds ts (fun a m => by simpa [tg0] using hm a m) r rs t (by simpa [bindT] using b)
    exact ⟨σ', P', by simp only [bindV, hp]; exact b1, b2, b3⟩
  | .tup ts, _, .non, _, _, _, _, _, _, _, _, _, b => by simp [bindT] at b
  | .tup ts, _, .bl _, _, _, _, _, _, _, _, _, _, b => by simp [bindT] at b
  | .tup ts, _, .int _, _, _, _, _, _, _, _, _, _, b => by simp [bindT] at b
  | .tup ts, _, .str _, _, _, _, _, _, _, _, _, _, b => by simp [bindT] at b
  | .tup ts, _, .hand, _, _, _, _, _, _, _, _, _, b => by simp [bindT] at b
  | .tup ts, _, .scr _, _, _, _, _, _, _, _, _, _, b => by simp [bindT] at b
  | .tup ts, _, .dik _ _, _, _, _, _, _, _, _, _, _, b => by simp [bindT] at b
  | .tup ts, _, .dit _ _, _, _, _, _, _, _, _, _, _, b => by simp [bindT] at b
theorem Rel.binds : ∀ (ts : List Tg) (_ : ∀ a, M a → tgs0 ts = false) {ds : List D} {vs : List V} {env env' : Env'} {σ : L2.St} {P : Nat → ASet} {T : ASet}, Rel K hd F0 H0 M F H env σ P → Reps K F H hd ds vs T → TOk H0 M hd F H P T → bindTs ts ds env = some env' →
    ∃ σ' P', bindVs H ts vs σ = some σ' ∧ Rel K hd F0 H0 M F H env' σ' P' ∧ ∀ T', TOk H0 M hd F H P T' → (∀ a, T' a → ¬ T a) → TOk H0 M hd F H P' T'
  | [], _, [], vs, env, env', σ, P, T, r, p, t, b => by
    simp only [bindTs, Option.some.injEq] at b
    subst b
    cases p
    exact ⟨σ, P, rfl, r, fun T' t' _ => t'⟩
  | [], _, _ :: _, _, _, _, _, _, _, _, _, _, b => by simp [bindTs] at b
  | _ :: _, _, [], _, _, _, _, _, _, _, _, _, b => by simp [bindTs] at b
  | tg :: ts, hm, d :: ds, vs, env, env', σ, P, T, r, p, t, b => by
    simp only [bindTs, Option.bind_eq_some_iff] at b
    obtain ⟨env1, b1, b2⟩ := b
    obtain ⟨v, rs, A, B, rfl, s1, s2, m, q1, q2⟩ := p
    obtain ⟨σ1, P1, e1, e2, e3⟩ := Rel.bind tg (fun a m => by have := hm a m; simp [tgs0] at this; exact this.1) r q1 (t.sub s1) b1
    obtain ⟨σ2, P2, e4, e5, e6⟩ := Rel.binds ts (fun a m => by have := hm a m; simp [tgs0] at this; exact this.2) e2 q2 (e3 B (t.sub s2) fun a b a' => m a a' b) b2
    exact ⟨σ2, P2, by simp only [bindVs, e1, Option.bind_some]; exact e4, e5, fun T' t' n => e6 T' (e3 T' t' fun a q q' => n a q (s1 a q')) fun a q q' => n a q (s2 a q')⟩
end
/-- the cells of the name i changed: what it owned and T, other content at p -/
theorem Rel.write {i : Nat} {d d' : D} {v : V} {p : Addr} {u : HO} {T T' : ASet} (r : Rel K hd F0 H0 M F H env σ P) (e : env[i]? = some (some d)) (ev : σ[i]? = some (some v)) (op : P i p) (hT : TOk H0 M hd F H P T) (nu : noTup u = true) (hw : (∃ a, M a) → ∀ c r, H p = some (.lst (.ref c :: r)) → ∃ r', u = .lst (.ref c :: r'))
    (hs : ∀ a, T' a → P i a ∨ T a) (n : Rep K F (L2.upd H p u) hd d' v T') :
    Rel K hd F0 H0 M F (L2.upd H p u) (env.set i (some d')) σ (fun j a => if j = i then T' a else P j a) := by
  obtain ⟨p1, p2, p3, p4⟩ := r.own i p op
  have nP : ∀ j a, j ≠ i → P j a → a ≠ p := fun j a n q z => r.apart j i a n q (z ▸ op)
  have nF : ∀ a o, F a = some o → a ≠ p := fun a o q z => by
    subst z; rw [p1] at q; cases q
  refine ⟨⟨fun a o q => ?_, fun a z => ?_, ?_, r.good.fnt⟩, by simpa using r.len, fun j d2 q => ?_, fun j a q => ?_, fun j k a n q q' => ?_, r.sf, fun a o q m n t => ?_, r.nof, fun a c s e q => ?_, fun a m => ?_⟩
  · rw [upd_ne (nF a o q)]
    exact r.good.sub a o q
  · obtain ⟨h1, c, cs, i, b, m, k, h2, h3, h4⟩ := r.good.hand a z
    have : a ≠ p := fun y => p3 (y ▸ z)
    exact ⟨h1, c, cs, i, b, m, k, by rw [upd_ne this]; exact h2, h3, h4⟩
  · obtain ⟨o1, h1, h2⟩ := p4
    exact Tabs.write r.good.tab h1 h2
  · by_cases ij : i = j
    · subst ij
      by_cases hi : i < env.length
      · rw [List.getElem?_set_self hi] at q
        cases q
        exact ⟨v, ev, n.sub fun a t => by simpa using t⟩
      · rw [List.getElem?_eq_none (by simpa using hi)] at q; cases q
    · rw [List.getElem?_set_ne ij] at q
      obtain ⟨w, e1, e2⟩ := r.get j d2 q
      exact ⟨w, e1, Rep.mono (Same.refl F) e2 (fun a o t z => by rw [upd_ne (nP j a (Ne.symm ij) t)]; exact z) fun a t => by simpa [Ne.symm ij] using t⟩
  · have k : ∀ a o, H a = some o → noTup o = true → ∃ o, L2.upd H p u a = some o ∧ noTup o = true := fun a o q t => by
      by_cases z : a = p
      · subst z; exact ⟨u, upd_same, nu⟩
      · exact ⟨o, by rw [upd_ne z]; exact q, t⟩
    by_cases ij : j = i
    · simp only [ij, if_true] at q
      rcases hs a q with q | q
      · obtain ⟨h1, h2, h3, o, h4, h5⟩ := r.own i a q
        exact ⟨h1, h2, h3, k a o h4 h5⟩
      · obtain ⟨h1, h2, h3, ⟨o, h4, h5⟩, _⟩ := hT a q
        exact ⟨h1, h2, h3, k a o h4 h5⟩
    · simp only [ij, if_false] at q
      obtain ⟨h1, h2, h3, o, h4, h5⟩ := r.own j a q
      exact ⟨h1, h2, h3, k a o h4 h5⟩
  · by_cases ij : j = i
    · subst ij
      simp only [if_true] at q
      have nk : ¬ k = j := fun z => n z.symm
      simp only [nk, if_false] at q'
      rcases hs a q with q | q
      · exact r.apart j k a n q q'
      · exact (hT a q).2.2.2.2 k q'
    · simp only [ij, if_false] at q
      by_cases ik : k = i
      · simp only [ik, if_true] at q'
        rcases hs a q' with q' | q'
        · exact r.apart j i a ij q q'
        · exact (hT a q').2.2.2.2 j q
      · simp only [ik, if_false] at q'
        exact r.apart j k a n q q'
  · have : a ≠ p := fun z => by
      subst z
      rcases p2 with p2 | p2
      · exact p2 o q t
      · exact m p2
    rw [upd_ne this]
    exact r.keep a o q m n t
  · obtain ⟨r', q'⟩ := r.hc a c s e q
    have : a ≠ p := fun z => p3 (z ▸ e)
    exact ⟨r', by rw [upd_ne this]; exact q'⟩
  · obtain ⟨h1, h2, h3⟩ := r.pin a m
    refine ⟨h1, h2, fun c s q => ?_⟩
    obtain ⟨s', q'⟩ := h3 c s q
    by_cases z : a = p
    · subst z
      obtain ⟨r', e'⟩ := hw ⟨a, m⟩ c s' q'
      exact ⟨r', by rw [upd_same, e']⟩
    · exact ⟨s', by rw [upd_ne z]; exact q'⟩
end
end Wk
end sec_W12

section sec_Tsw
set_option maxHeartbeats 4000000
namespace Wk
open PySem PySem.Spec PyProof.Rows L2
def swLine (ts : List Expr) : Nat := (ts.head?.map (·.pos.line)).getD 0
def swN (f : Str → Option NameKind) (line : Nat) (ts : List Expr) : List Str := ts.filterMap fun
  | .Name id pos => if (f id == some .local && pos.line == line) = true then some id else none
  | _ => none
def swC1 (ts vs : List Expr) : Bool := !(ts.length == 2 || ts.length == 3) || vs.length != ts.length
/-- the names that are stored from the right -/
def swNames (f : Str → Option NameKind) (ts vs : List Expr) : Option (List Str) :=
  if swC1 ts vs = true then none
  else if vs.any isStar = true then none
  else if ((swN f (swLine ts) ts).length != ts.length || (swN f (swLine ts) ts).eraseDups.length != (swN f (swLine ts) ts).length) = true then none
  else if vs.all (foldedForSure 8) = true then none
  else some (swN f (swLine ts) ts)
theorem star_any (vs : List Expr) : (vs.any fun | .Starred .. => true | _ => false) = vs.any isStar := by
  congr 1
theorem swapped_eq {env : Env} {ts vs : List Expr} {k k2 : Nat} {p p2 : Pos} (hk : env.scope.kind = .function) (hc : vs.all (constantsAlone 8) = false) :
    swappedStores [.Tuple ts k p] (.Tuple vs k2 p2) env = pure (swNames env.kindOf ts vs) := by
  have hb : (env.blockKind != .function) = false := by
    unfold Env.blockKind
    rw [hk]; rfl
  have e : swappedStores [.Tuple ts k p] (.Tuple vs k2 p2) env =
      if (swC1 ts vs || env.blockKind != .function) = true then pure none else
      if (vs.any fun | .Starred .. => true | _ => false) = true then pure none else
      if ((swN env.kindOf (swLine ts) ts).length != ts.length || (swN env.kindOf (swLine ts) ts).eraseDups.length != (swN env.kindOf (swLine ts) ts).length) = true then pure none else
      if vs.all (foldedForSure 8) = true then pure none else
      if vs.all (constantsAlone 8) = true then (unsupported "assign.tuple-of-constant-expressions:order-of-the-stores" >>= fun (_ : Unit) => pure (some (swN env.kindOf (swLine ts) ts))) else pure (some (swN env.kindOf (swLine ts) ts)) := rfl
  rw [e, hb, Bool.or_false, star_any, hc]
  unfold swNames
  split
  · rfl
  · split
    · rfl
    · split
      · rfl
      · split <;> rfl
end Wk
end sec_Tsw

section sec_W13
set_option Elab.async false
set_option linter.all false
set_option maxRecDepth 100000
set_option maxHeartbeats 8000000
namespace Wk
open PySem PySem.Spec PyProof.Rows L2
/-! ## statements -/
inductive S where
  | asg (tg : Tg) (e : E) | mov (L : List Nat) (tg : Tg) (e : E)
  | lcs (i : Nat) (own : List (Str × Nat)) (tg : Tg) (k : It) (src : List E) (c : Option E) (elt : E)
  | par (i j : Nat) (a b : E) | par3 (i j l : Nat) (a b c : E)
  | app (i : Nat) (e : E) | set (i : Nat) (k : E) (e : E) | aug (i : Nat) (op : Operator) (e : E)
  | movA (tg : Tg) (e : E) | retA (e : E)
  | ret (e : E) | retL (L : List Nat) (e : E) | retv (i : Nat) | retN
  | ife (c : E) (a b : List S) | whl (c : E) (a : List S)
  | fr (tg : Tg) (k : It) (src : List E) (a : List S) | frL (L : List Nat) (tg : Tg) (k : It) (src : List E) (a : List S)
  | expr (e : E) | rse (x : Str) | pas | brk | cnt
structure Post where
  nx : Env' → Prop
  rt : D → Env' → Prop
  bk : Env' → Prop
  ct : Env' → Prop
  ex : Err → Env' → Prop
def augW : Operator → D → D → (D → Prop) → Prop
  | .Add, .int i, .int j, Q => Q (.int (i + j))
  | .Sub, .int i, .int j, Q => Q (.int (i - j))
  | _, _, _, _ => False
def lcE (own : List (Str × Nat)) (tg : Tg) (k : It) (src : List E) (c : Option E) (elt : E) : E := .lc own tg k src c elt
mutual
def wp (G : Gam) : S → Env' → Post → Prop
  | .asg tg e, env, Φ => ev G e env (fun d => cl d = true ∧ ∃ env', bindT tg d env = some env' ∧ Φ.nx env') (fun z => Φ.ex z env)
  | .mov L tg e, env, Φ => ev G e (restr L 0 env) (fun d => ∃ env', bindT tg d (frzL L 0 env) = some env' ∧ Φ.nx env') (fun z => Φ.ex z (frzL L 0 env))
  | .lcs i own tg k src c elt, env, Φ => ev G (lcE own tg k src c elt) env (fun d => cl d = true ∧ Φ.nx (env.set i (some d))) (fun z => Φ.ex z env)
  | .par i j a b, env, Φ => ev G a env (fun x => ev G b env (fun y => cl x = true ∧ cl y = true ∧ Φ.nx ((env.set i (some x)).set j (some y))) (fun z => Φ.ex z env)) (fun z => Φ.ex z env)
  | .par3 i j l a b c, env, Φ => ev G a env (fun x => ev G b env (fun y => ev G c env (fun z => cl x = true ∧ cl y = true ∧ cl z = true ∧ Φ.nx (((env.set i (some x)).set j (some y)).set l (some z))) (fun z => Φ.ex z env)) (fun z => Φ.ex z env)) (fun z => Φ.ex z env)
  | .app i e, env, Φ => ∃ xs, env[i]? = some (some (.lst true xs)) ∧ xs.length < sizeLine ∧ ev G e env (fun d => cl d = true ∧ Φ.nx (env.set i (some (.lst true (xs ++ [d]))))) (fun z => Φ.ex z env)
  | .set i k e, env, Φ => ∃ xs, env[i]? = some (some (.lst true xs)) ∧ ev G e env (fun d => cl d = true ∧ ev G k env (fun y => ∃ j m, y = .int j ∧ ixN xs.length j = some m ∧ (G.pin = true → m ≠ 0) ∧ Φ.nx (env.set i (some (.lst true (xs.set m d))))) (fun z => Φ.ex z env)) (fun z => Φ.ex z env)
  | .aug i op e, env, Φ => ∃ x, env[i]? = some (some x) ∧ ev G e env (fun y => augW op x y fun d => Φ.nx (env.set i (some d))) (fun z => Φ.ex z env)
  | .ret e, env, Φ => ev G e env (fun d => cl d = true ∧ Φ.rt d env) (fun z => Φ.ex z env)
  | .retL L e, env, Φ => ev G e (restr L 0 env) (fun d => Φ.rt d (frzL L 0 env)) (fun z => Φ.ex z (frzL L 0 env))
  | .retA e, env, Φ => ev G e env (fun d => Φ.rt d (env.map fun _ => none)) (fun z => Φ.ex z (env.map fun _ => none))
  | .movA tg e, env, Φ => ev G e env (fun d => ∃ env', bindT tg d (env.map (Option.map fr)) = some env' ∧ Φ.nx env') (fun z => Φ.ex z (env.map (Option.map fr)))
  | .retv i, env, Φ => ∃ d, env[i]? = some (some d) ∧ Φ.rt d (env.set i none)
  | .retN, env, Φ => Φ.rt .non env
  | .ife c a b, env, Φ => ev G c env (fun d => ∃ k, truthD d = some k ∧ if k = true then wps G a env Φ else wps G b env Φ) (fun z => Φ.ex z env)
  | .whl c a, env, Φ => ∃ I : Nat → Env' → Prop, (∃ m, I m env) ∧ ∀ m env, I m env → ev G c env (fun d => ∃ k, truthD d = some k ∧
      if k = true then wps G a env { nx := fun env' => ∃ m', m' < m ∧ I m' env', rt := Φ.rt, bk := Φ.nx, ct := fun env' => ∃ m', m' < m ∧ I m' env', ex := Φ.ex } else Φ.nx env) (fun z => Φ.ex z env)
  | .fr tg k src a, env, Φ => evs G src env (fun ds => srcW k ds fun xs => ∃ I : Nat → Env' → Prop, I 0 env ∧ (∀ env', I xs.length env' → Φ.nx env') ∧ ∀ i d env', xs[i]? = some d → I i env' → ∃ env2, bindT tg (fr d) env' = some env2 ∧
      wps G a env2 { nx := I (i + 1), rt := Φ.rt, bk := Φ.nx, ct := I (i + 1), ex := Φ.ex }) (fun z => Φ.ex z env)
  | .frL L tg k src a, env, Φ => evs G src (restr L 0 env) (fun ds => srcW k ds fun xs => ∃ I : Nat → Env' → Prop, I 0 (frzL L 0 env) ∧ (∀ env', I xs.length env' → Φ.nx env') ∧ ∀ i d env', xs[i]? = some d → I i env' → ∃ env2, bindT tg (fr d) env' = some env2 ∧
      wps G a env2 { nx := I (i + 1), rt := Φ.rt, bk := Φ.nx, ct := I (i + 1), ex := Φ.ex }) (fun z => Φ.ex z (frzL L 0 env))
  | .expr e, env, Φ => ev G e env (fun _ => Φ.nx env) (fun z => Φ.ex z env)
  | .rse x, env, Φ => Φ.ex ⟨x, none⟩ env
  | .pas, env, Φ => Φ.nx env
  | .brk, env, Φ => Φ.bk env
  | .cnt, env, Φ => Φ.ct env
def wps (G : Gam) : List S → Env' → Post → Prop
  | [], env, Φ => Φ.nx env
  | s :: ss, env, Φ => wp G s env { nx := fun env' => wps G ss env' Φ, rt := Φ.rt, bk := Φ.bk, ct := Φ.ct, ex := Φ.ex }
end
/-! ## slot 0 is kept -/
mutual
def no0 : S → Bool
  | .asg tg _ => !tg0 tg | .mov _ tg _ => !tg0 tg | .movA tg _ => !tg0 tg | .lcs i _ _ _ _ _ _ => i != 0
  | .par i j _ _ => i != 0 && j != 0 | .par3 i j l _ _ _ => i != 0 && (j != 0 && l != 0)
  | .aug i _ _ => i != 0
  | .ife _ a b => no0s a && no0s b | .whl _ a => no0s a
  | .fr tg _ _ a => !tg0 tg && no0s a | .frL _ tg _ _ a => !tg0 tg && no0s a
  | _ => true
def no0s : List S → Bool
  | [] => true
  | s :: ss => no0 s && no0s ss
end
/-! ## the check -/
def isComp : Expr → Bool
  | .ListComp _ _ _ _ => true
  | .SetComp _ _ _ _ => true
  | .DictComp _ _ _ _ _ => true
  | _ => false
def ownNm (scope : Scope) (y : Str) : Bool := scope.names.any fun x => match x with
  | (n, k) => n == y && (k == .local || k == .cell)
/-- the comprehension is stored within its own frame -/
def swB (sc : Scope) : Expr → Expr → Bool
  | .ListComp _ _ scope p, .Name t q => sc.names.lookup t == some .local && q.line == p.line && !ownNm scope t
  | _, _ => false
def isName : Expr → Bool
  | .Name _ _ => true
  | _ => false
def setOrDict : Expr → Bool
  | .SetComp _ _ _ _ => true
  | .DictComp _ _ _ _ _ => true
  | _ => false
def isTL : Expr → Bool
  | .Tuple _ _ _ => true
  | .List _ _ => true
  | _ => false
/-- a tuple's parts are stored from the left -/
def noSw (sc : Scope) : Expr → Expr → Bool
  | .Tuple ts _ _, .Tuple vs _ _ => !vs.all (constantsAlone 8) && (swNames (fun x => sc.names.lookup x) ts vs).isNone
  | .List _ _, .Tuple _ _ _ => false
  | _, _ => true
def asgOk (sc : Scope) (t e : Expr) : Bool := !isStar t && (!setOrDict e && (!swB sc e t && noSw sc t e))
def locL (sc : Scope) (x : Str) : Bool := decide (sc.names.lookup x = some .local)
mutual
def chkS (G : Gam) (n : NB) (N : List Str) (cls : List Str) (sc : Scope) : S → Stmt → Bool
  | .asg tg e, .Assign [t] x _ => asgOk sc t x && (chkT N sc tg t && chk G n N sc e x)
  | .mov _ tg e, .Assign [t] x _ => asgOk sc t x && (chkT N sc tg t && chk G n N sc e x)
  | .lcs i own tg k src c elt, .Assign [.Name y q] (.ListComp z gens scope p) _ => swB sc (.ListComp z gens scope p) (.Name y q) && (decide (N[i]? = some y) && chk G n N sc (.lc own tg k src c elt) (.ListComp z gens scope p))
  | .par i j a b, .Assign [.Tuple [.Name x px, .Name y py] kt pt] (.Tuple [u, v] ku pu) _ =>
    (decide (N[i]? = some x) && (decide (N[j]? = some y) && (!decide (i = j) && (locL sc x && locL sc y)))) && ((!([u, v].all (constantsAlone 8)) && decide (swNames (fun x => sc.names.lookup x) [.Name x px, .Name y py] [u, v] = some [x, y])) && chks G n N sc [a, b] [u, v])
  | .par3 i j l a b c, .Assign [.Tuple [.Name x px, .Name y py, .Name z pz] kt pt] (.Tuple [u, v, w] ku pu) _ =>
    (decide (N[i]? = some x) && (decide (N[j]? = some y) && (decide (N[l]? = some z) && ((!decide (i = j) && (!decide (i = l) && !decide (j = l))) && (locL sc x && (locL sc y && locL sc z)))))) &&
      ((!([u, v, w].all (constantsAlone 8)) && decide (swNames (fun x => sc.names.lookup x) [.Name x px, .Name y py, .Name z pz] [u, v, w] = some [x, y, z])) && chks G n N sc [a, b, c] [u, v, w])
  | .app i e, .Expr (.Call (.Attribute (.Name x p) m apos) [y] [] cpos) _ => (decide (m = ("append" : Str)) && (apos.endLine == cpos.line && !isStar y)) && (chk G n N sc (.var i) (.Name x p) && chk G n N sc e y)
  | .set i k e, .Assign [.Subscript (.Name x p) z _] y _ => (!isSlice z && (!setOrDict y && !isStar y)) && (chk G n N sc (.var i) (.Name x p) && (chk G n N sc k z && chk G n N sc e y))
  | .aug i op e, .AugAssign (.Name x _) o y _ => (decide (op = o) && (op == .Add || op == .Sub)) && ((decide (N[i]? = some x) && locB sc x) && chk G n N sc e y)
  | .ret e, .Return (some x) _ => chk G n N sc e x
  | .retL _ e, .Return (some x) _ => chk G n N sc e x
  | .retA e, .Return (some x) _ => chk G n N sc e x
  | .movA tg e, .Assign [t] x _ => asgOk sc t x && (chkT N sc tg t && chk G n N sc e x)
  | .retv i, .Return (some x) _ => chk G n N sc (.var i) x
  | .retN, .Return none _ => true
  | .ife c a b, .If x u v _ => chk G n N sc c x && (chkSs G n N cls sc a u && chkSs G n N cls sc b v)
  | .whl c a, .While x u [] _ => chk G n N sc c x && chkSs G n N cls sc a u
  | .fr tg k src a, .For t it u [] _ => (decide (k = .rng) && (srcN k src.length && match srcX sc k t it with
      | some xs => chks G n N sc src xs
      | none => false)) && (chkT N sc tg t && chkSs G n N cls sc a u)
  | .frL _ tg k src a, .For t it u [] _ => (srcN k src.length && match srcX sc k t it with
      | some xs => chks G n N sc src xs
      | none => false) && (chkT N sc tg t && chkSs G n N cls sc a u)
  | .expr e, .Expr x _ => !isComp x && chk G n N sc e x
  | .rse x, .Raise (some (.Call (.Name y _) [] [] _)) none _ => decide (x = y) && (cls.contains x && (gloB sc x && okName x))
  | .pas, .Pass _ => true
  | .brk, .Break _ => true
  | .cnt, .Continue _ => true
  | _, _ => false
def chkSs (G : Gam) (n : NB) (N : List Str) (cls : List Str) (sc : Scope) : List S → List Stmt → Bool
  | [], [] => true
  | s :: ss, t :: ts => chkS G n N cls sc s t && chkSs G n N cls sc ss ts
  | _, _ => false
end
end Wk
end sec_W13

section sec_W14a
set_option Elab.async false
set_option linter.all false
set_option maxRecDepth 100000
set_option maxHeartbeats 8000000
namespace Wk
open PySem PySem.Spec PyProof.Rows L2
variable [Tab]
/-! ## own exceptions without an argument -/
theorem pmk_own0 {X : Cx} {pos : Pos} {C : Addr} {bmB : List Value} {B newId initId : String} {x : Str} {p : Pos} (F : ExcBaseFacts B newId initId bmB) (q : PySem.W.excIn X.K C bmB newId = true) (gC : X.mg x = some (.ref C)) (kC : PySem.W.keepIn X.K (.ref C) = true)
    (r : Raises X (.ref C)) (hg : Gl X x) (hdb : (x == ("__debug__" : Str)) = false) : PMk X (.Call (.Name x p) [] [] pos) fun σ H Q => Q (.ref C) none H := by
  intro pins s σ H Q I h
  refine wpAny_Call_Name_kw (ld_glob I hg gC (W.callWith_K0 I.kIn kC ?_) hdb)
  obtain ⟨bm, N, nm, qn, bs, hdct, sn, sub, ab, col, dd, k0, k1, k2, k3, k5, mN, hC, hN, hni, T⟩ := exc_obj I.kIn q
  obtain ⟨hp1, g1, d1, tk1, os1⟩ := s
  exact wpAny_call_exc_subT F T hC hN hni (fun h' e mk => mk_of I mk r h (HOk.gone I.hok mk.new)) (Nat.zero_le _)
structure ClsOk (X : Cx) (x : Str) : Prop where
  ex : ∃ (C : Addr) (bmB : List Value) (B newId initId : String), ExcBaseFacts B newId initId bmB ∧ PySem.W.excIn X.K C bmB newId = true ∧ X.mg x = some (.ref C) ∧ PySem.W.keepIn X.K (.ref C) = true ∧ Raises X (.ref C)
/-! ## the reading of a statement -/
structure Rd (K : Frag) (mg : Str → Option Value) (W : WX) (hd : Option Addr) (F0 H0 : Hp) (M : ASet) (Φ : Post) (D : Ends) : Prop where
  nx : ∀ σ F H env P, Rel K hd F0 H0 M F H env σ P → Φ.nx env → D.nx σ H
  bk : ∀ σ F H env P, Rel K hd F0 H0 M F H env σ P → Φ.bk env → D.bk σ H
  ct : ∀ σ F H env P, Rel K hd F0 H0 M F H env σ P → Φ.ct env → D.ct σ H
  rt : ∀ σ F H env P d v T, Rel K hd F0 H0 M F H env σ P → Rep K F H hd d v T → TOk H0 M hd F H P T → Φ.rt d env → D.rt v H
  ex : ∀ σ F H env P e c dx, Rel K hd F0 H0 M F H env σ P → ErrRep mg e c dx H → Φ.ex e env → W c dx σ H
def TSv (X : Cx) (G : Gam) (W : WX) (s : S) : TS := fun D σ H => ∃ hd F0 H0 M F env P Φ, Rel X.K hd F0 H0 M F H env σ P ∧ wp G s env Φ ∧ Rd X.K X.mg W hd F0 H0 M Φ D ∧ ∀ a, M a → G.pin = true ∧ no0 s = true
def TSvs (X : Cx) (G : Gam) (W : WX) (s : List S) : TS := fun D σ H => ∃ hd F0 H0 M F env P Φ, Rel X.K hd F0 H0 M F H env σ P ∧ wps G s env Φ ∧ Rd X.K X.mg W hd F0 H0 M Φ D ∧ ∀ a, M a → G.pin = true ∧ no0s s = true
theorem _root_.L2.PS.imp {X : Cx} {e : Stmt} {t t' : TS} (h : PS X e t) (i : ∀ D σ H, t' D σ H → t D σ H) : PS X e t' := ⟨fun pins s σ H D I q => h.run pins s σ H D I (i D σ H q)⟩
theorem _root_.L2.PSs.imp {X : Cx} {e : List Stmt} {t t' : TS} (h : PSs X e t) (i : ∀ D σ H, t' D σ H → t D σ H) : PSs X e t' := ⟨fun pins s σ H D I q => h.run pins s σ H D I (i D σ H q)⟩
section
variable {K : Frag} {mg : Str → Option Value} {W : WX} {hd : Option Addr} {F0 H0 F H F1 H1 : Hp} {M : ASet} {env : Env'} {σ : L2.St} {P : Nat → ASet} {Φ : Post} {De : Ends} {G : Gam}
/-- errors of an evaluation -/
theorem Rd.err (r : Rel K hd F0 H0 M F H env σ P) (rd : Rd K mg W hd F0 H0 M Φ De) {z : Err} (h : Φ.ex z env) : RZ K mg hd (fz F H (PA P)) H (fun c d H' => W c d σ H') z := fun c dx F' H' x er =>
  rd.ex σ _ H' env P z c dx (r.back x (Own.none (F := F'))).1 er h
theorem Rd.errL {L : List Nat} (r : Rel K hd F0 H0 M F H env σ P) (rd : Rd K mg W hd F0 H0 M Φ De) {z : Err} (h : Φ.ex z (frzL L 0 env)) : RZ K mg hd (fz F H (PL P L)) H (fun c d H' => W c d σ H') z := fun c dx F' H' x er =>
  rd.ex σ _ H' _ _ z c dx (r.backL x (Own.none (F := F'))).1 er h
/-- a value comes in -/
theorem val1 {X : Cx} {e : E} {Q : D → Prop} {R : V → Hp → Prop} (r : Rel X.K hd F0 H0 M F H env σ P) (rd : Rd X.K X.mg W hd F0 H0 M Φ De)
    (h : ev G e env Q (fun z => Φ.ex z env)) (k : ∀ d v F' H' T, Q d → Rel X.K hd F0 H0 M F' H' env σ P → TOk H0 M hd F' H' P T → (cl d = true → Rep X.K F' H' hd d v T) → R v H') : TV X G W e σ H R :=
  ⟨_, hd, env, r.pgood, r.penv, ev_mono G e (fun d q v F' H' T x o rp => by
    obtain ⟨r', t, c, _⟩ := r.back x o
    exact k d v _ H' T q r' t fun cd => c cd rp) (fun z h => rd.err r h) h⟩
theorem valL {X : Cx} {e : E} {L : List Nat} {Q : D → Prop} {R : V → Hp → Prop} (r : Rel X.K hd F0 H0 M F H env σ P) (rd : Rd X.K X.mg W hd F0 H0 M Φ De)
    (h : ev G e (restr L 0 env) Q (fun z => Φ.ex z (frzL L 0 env))) (k : ∀ d v F' H' T, Q d → Rel X.K hd F0 H0 M F' H' (frzL L 0 env) σ (PN P L) → TOk H0 M hd F' H' (PN P L) T → Rep X.K F' H' hd d v T → R v H') : TV X G W e σ H R :=
  ⟨_, hd, _, r.pgoodL L, r.penvL L, ev_mono G e (fun d q v F' H' T x o rp => by
    obtain ⟨r', t⟩ := r.backL x o
    exact k d v _ H' T q r' t rp) (fun z h => rd.errL r h) h⟩
theorem valA {X : Cx} {e : E} {f : Option D → Option D} (hf : f = (fun _ => none) ∨ f = Option.map fr) {Q : D → Prop} {R : V → Hp → Prop} (r : Rel X.K hd F0 H0 M F H env σ P) (rd : Rd X.K X.mg W hd F0 H0 M Φ De)
    (h : ev G e env Q (fun z => Φ.ex z (env.map f))) (k : ∀ d v F' H' T, Q d → Rel X.K hd F0 H0 M F' H' (env.map f) σ (fun _ _ => False) → TOk H0 M hd F' H' (fun _ _ => False) T → Rep X.K F' H' hd d v T → R v H') : TV X G W e σ H R :=
  ⟨_, hd, env, r.pgood, r.penv, ev_mono G e (fun d q v F' H' T x o rp => by
    obtain ⟨r', t⟩ := r.backA hf x o
    exact k d v _ H' T q r' t rp) (fun z h c dx F' H' x er => rd.ex σ _ H' _ _ z c dx (r.backA hf x (Own.none (F := F'))).1 er h) h⟩
end
end Wk
end sec_W14a

section sec_W14b
set_option Elab.async false
set_option linter.all false
set_option maxRecDepth 100000
set_option maxHeartbeats 8000000
namespace Wk
open PySem PySem.Spec PyProof.Rows L2
variable [Tab]
/-! ## forms of a store -/
theorem swaps_eq {env : Env} {sc : Scope} (es : env.scope = sc) (hk : sc.kind = .function) {e t : Expr} (h : setOrDict e = false) (l : Nat) : swapsWith e (some t) l env = pure (swB sc e t) := by
  subst es
  cases e with
  | ListComp a b c d =>
    cases t with
    | Name x p =>
      have hb : env.blockKind = .function := by
        unfold Env.blockKind
        rw [hk]; rfl
      show (pure (env.blockKind == ScopeKind.function && env.kindOf x == some NameKind.local && p.line == (Expr.ListComp a b c d).pos.line && !ownNm c x) : Sem Bool) = _
      rw [hb]
      rfl
    | _ => rfl
  | SetComp a b c d => simp [setOrDict] at h
  | DictComp a b c d e => simp [setOrDict] at h
  | _ => rfl
theorem swaps_none {env : Env} {e : Expr} (h : isComp e = false) (l : Nat) : swapsWith e none l env = pure false := by
  cases e <;> first | rfl | (simp [isComp] at h)
theorem stores_none {env : Env} {sc : Scope} (es : env.scope = sc) (hk : sc.kind = .function) {e t : Expr} (h : noSw sc t e = true) : swappedStores [t] e env = pure none := by
  subst es
  cases t with
  | Tuple ts k p =>
    cases e with
    | Tuple vs k2 p2 =>
      simp only [noSw, Bool.and_eq_true, Bool.not_eq_true', Option.isNone_iff_eq_none] at h
      rw [swapped_eq hk h.1]
      exact congrArg pure h.2
    | _ => rfl
  | List ts p =>
    cases e with
    | Tuple vs k2 p2 => simp [noSw] at h
    | _ => rfl
  | _ => rfl
theorem each_one {t : Expr} (h : isStar t = false) (env : Env) : List.map (fun x => x.snd) (assignEach [t] env) = [assign t env] := by
  rw [assignEach_of h]
  rfl
section
variable {K : Frag} {mg : Str → Option Value} {W : WX} {hd : Option Addr} {F0 H0 F H F1 H1 : Hp} {M : ASet} {env : Env'} {σ : L2.St} {P : Nat → ASet} {Φ : Post} {De : Ends} {G : Gam}
/-- an evaluation that keeps what another has made -/
theorem TOk.back {T0 : ASet} (r : Rel K hd F0 H0 M F H env σ P) (t0 : TOk H0 M hd F H P T0) (x : Ext K hd (fz F H (PA P)) H F1 H1) : TOk H0 M hd (unfz F1 (PA P)) H1 P T0 := fun a t => by
  obtain ⟨h1, h2, h3, ⟨o, h4, h5⟩, h6⟩ := t0 a t
  have n : ¬ PA P a := fun ⟨i, p⟩ => h6 i p
  refine ⟨?_, h2, h3, ⟨o, x.keep a o h3 h4 (NT.of h5), h5⟩, h6⟩
  rw [unfz_out n]
  exact x.nof a o h4 (NT.of h5) (by rw [fz_out n]; exact h1)
theorem Rep.back {T0 : ASet} {d : D} {v : V} (p : Rep K F H hd d v T0) (t0 : TOk H0 M hd F H P T0) (s : Same F (unfz F1 (PA P))) (x : Ext K hd (Wk.fz F H (PA P)) H F1 H1) : Rep K (unfz F1 (PA P)) H1 hd d v T0 :=
  Rep.mono s p (fun a o t q => x.keep a o (t0 a t).2.2.1 q (t0.nt t q)) fun _ t => t
/-- a step of nobody's -/
theorem Rel.ext (r : Rel K hd F0 H0 M F H env σ P) (x : Ext K hd F H F1 H1) : Rel K hd F0 H0 M F1 H1 env σ P where
  good := x.good
  len := r.len
  get := fun i d e => by
    obtain ⟨v, q, p⟩ := r.get i d e
    exact ⟨v, q, Rep.mono x.sf p (fun a o t q => x.keep a o (r.own i a t).2.2.1 q (r.nt t q)) fun _ t => t⟩
  own := fun i a p => by
    obtain ⟨h1, h2, h3, o, h4, h5⟩ := r.own i a p
    exact ⟨x.nof a o h4 (NT.of h5) h1, h2, h3, o, x.keep a o h3 h4 (NT.of h5), h5⟩
  apart := r.apart
  sf := r.sf.trans x.sf
  keep := fun a o q m n t => x.keep a o n (r.keep a o q m n t) t
  nof := fun a o q m t f => by
    obtain ⟨o', q', t'⟩ := r.there q m t
    exact x.nof a o' q' t' (r.nof a o q m t f)
  hc := fun a c s e q => by
    obtain ⟨s', q'⟩ := r.hc a c s e q
    exact x.hc a c s' e q'
  pin := fun a m => by
    obtain ⟨h1, h2, h3⟩ := r.pin a m
    refine ⟨h1, h2, fun c s q => ?_⟩
    obtain ⟨s', q'⟩ := h3 c s q
    exact ⟨s', x.keep a _ h1 q' NT.lst⟩
/-- a name's data taken out -/
theorem Rel.drop {i : Nat} {d : D} (r : Rel K hd F0 H0 M F H env σ P) (e : env[i]? = some (some d)) : ∃ v, σ[i]? = some (some v) ∧ Rep K F H hd d v (P i) ∧ TOk H0 M hd F H (fun j a => j ≠ i ∧ P j a) (P i) ∧
    Rel K hd F0 H0 M F H (env.set i none) σ (fun j a => j ≠ i ∧ P j a) := by
  obtain ⟨v, q, p⟩ := r.get i d e
  refine ⟨v, q, p, fun a t => ?_, ⟨r.good, by simp [r.len], fun j d' q' => ?_, fun j a q => r.own j a q.2, fun j k a n q q' => r.apart j k a n q.2 q'.2, r.sf, r.keep, r.nof, r.hc, r.pin⟩⟩
  · obtain ⟨h1, h2, h3, h4⟩ := r.own i a t
    exact ⟨h1, h2, h3, h4, fun j ⟨n, p'⟩ => r.apart j i a n p' t⟩
  · by_cases ij : i = j
    · subst ij
      by_cases hi : i < env.length
      · rw [List.getElem?_set_self hi] at q'; cases q'
      · rw [List.getElem?_eq_none (by simpa using hi)] at q'; cases q'
    · rw [List.getElem?_set_ne ij] at q'
      obtain ⟨u, e1, e2⟩ := r.get j d' q'
      exact ⟨u, e1, e2.sub fun a t => ⟨Ne.symm ij, t⟩⟩
/-- lists with one item otherwise -/
theorem Reps.setOne : ∀ {ds : List D} {vs : List V} {T T' : ASet} {d : D} {v : V} (m : Nat), Reps K F H hd ds vs T → Rep K F H hd d v T' → (∀ a, T a → ¬ T' a) → Reps K F H hd (ds.set m d) (vs.set m v) (fun a => T a ∨ T' a)
  | [], vs, T, T', d, v, m, h, p, n => by
    cases h
    rfl
  | e :: ds, vs, T, T', d, v, 0, h, p, n => by
    obtain ⟨w, r, T1, T2, rfl, s1, s2, m, q1, q2⟩ := h
    exact ⟨v, r, T', T2, rfl, fun _ t => .inr t, fun a t => .inl (s2 a t), fun a t t' => n a (s2 a t') t, p, q2⟩
  | e :: ds, vs, T, T', d, v, m + 1, h, p, n => by
    obtain ⟨w, r, T1, T2, rfl, s1, s2, m', q1, q2⟩ := h
    refine ⟨w, r.set m v, T1, fun a => T2 a ∨ T' a, rfl, fun a t => .inl (s1 a t), fun a t => t.elim (fun t => .inl (s2 a t)) .inr, fun a t t' => t'.elim (m' a t) (n a (s1 a t)), q1, Reps.setOne m q2 p fun a t => n a (s2 a t)⟩
theorem Rel.app {i : Nat} {xs : List D} {d : D} {v : V} {T : ASet} (r : Rel K hd F0 H0 M F H env σ P) (e : env[i]? = some (some (.lst true xs))) (t : TOk H0 M hd F H P T) (p : Rep K F H hd d v T) :
    ∃ a vs, σ[i]? = some (some (.ref a)) ∧ H a = some (.lst vs) ∧ vs.length = xs.length ∧ ∃ P', Rel K hd F0 H0 M F (upd H a (.lst (vs ++ [v]))) (env.set i (some (.lst true (xs ++ [d])))) σ P' := by
  obtain ⟨w, q, a, vs, rfl, ta, ha, rs⟩ := r.get i _ e
  refine ⟨a, vs, q, ha, rs.length, _, r.write (d' := .lst true (xs ++ [d])) (T' := fun b => P i b ∨ T b) e q ta t rfl (fun _ c r e => by rw [ha] at e; cases e; exact ⟨_, rfl⟩) (fun b z => z) ?_⟩
  have na : ¬ T a := fun z => (t a z).2.2.2.2 i ta
  refine ⟨a, _, rfl, .inl ta, upd_same, ?_⟩
  refine (Reps.append (T1 := fun b => P i b ∧ b ≠ a) (T2 := T) ?_ ?_ fun b z z' => (t b z').2.2.2.2 i z.1).sub fun b z => ?_
  · exact Reps.mono (Same.refl F) rs (fun b o z y => by rw [upd_ne z.2]; exact y) fun b z => z
  · exact Reps.one (Rep.mono (Same.refl F) p (fun b o z y => by rw [upd_ne (show b ≠ a from fun w => na (w ▸ z))]; exact y) fun b z => z)
  · rcases z with z | z
    · exact ⟨.inl z.1, z.2⟩
    · exact ⟨.inr z, fun w => na (w ▸ z)⟩
theorem Rel.setAt {i m : Nat} {xs : List D} {d : D} {v : V} {T : ASet} (hm : (∃ a, M a) → m ≠ 0) (r : Rel K hd F0 H0 M F H env σ P) (e : env[i]? = some (some (.lst true xs))) (t : TOk H0 M hd F H P T) (p : Rep K F H hd d v T) :
    ∃ a vs, σ[i]? = some (some (.ref a)) ∧ H a = some (.lst vs) ∧ vs.length = xs.length ∧ ∃ P', Rel K hd F0 H0 M F (upd H a (.lst (vs.set m v))) (env.set i (some (.lst true (xs.set m d)))) σ P' := by
  obtain ⟨w, q, a, vs, rfl, ta, ha, rs⟩ := r.get i _ e
  refine ⟨a, vs, q, ha, rs.length, _, r.write (d' := .lst true (xs.set m d)) (T' := fun b => P i b ∨ T b) e q ta t rfl (fun h c r e => by rw [ha] at e; cases e; cases m with
    | zero => exact absurd rfl (hm h)
    | succ m => exact ⟨_, rfl⟩) (fun b z => z) ?_⟩
  have na : ¬ T a := fun z => (t a z).2.2.2.2 i ta
  refine ⟨a, _, rfl, .inl ta, upd_same, ?_⟩
  refine (Reps.setOne (T := fun b => P i b ∧ b ≠ a) (T' := T) m ?_ ?_ fun b z z' => (t b z').2.2.2.2 i z.1).sub fun b z => ?_
  · exact Reps.mono (Same.refl F) rs (fun b o z y => by rw [upd_ne z.2]; exact y) fun b z => z
  · exact Rep.mono (Same.refl F) p (fun b o z y => by rw [upd_ne (show b ≠ a from fun w => na (w ▸ z))]; exact y) fun b z => z
  · rcases z with z | z
    · exact ⟨.inl z.1, z.2⟩
    · exact ⟨.inr z, fun w => na (w ▸ z)⟩
end
end Wk
end sec_W14b

section sec_W14
set_option Elab.async false
set_option linter.all false
set_option maxRecDepth 100000
set_option maxHeartbeats 8000000
namespace Wk
open PySem PySem.Spec PyProof.Rows L2
variable [Tab]
/-! ## soundness of wp -/
structure SOk (X : Cx) (G : Gam) (n : NB) (cls : List Str) (sc : Scope) : Prop where
  es : X.env.scope = sc
  kf : sc.kind = .function
  own : OwnSc X sc
  x : XOk X G n
  ce : ∀ y ∈ cls, ClsOk X y
  po : PassesOwn (model X.prog X.w) X.A X.env X.xe
theorem rng_src {X : Cx} {G : Gam} {n : NB} {W : WX} (x : XOk X G n) {sc : Scope} (es : X.env.scope = sc) {src : List E} {t it : Expr} {xs : List Expr} (hn : srcN .rng src.length = true) (hx : srcX sc .rng t it = some xs) (c : chks G n X.N sc src xs = true) (pa : L2.PA X xs (TVs X G W src)) :
    PI X t it fun σ H R => ∃ F hd env, Good X.K hd F H ∧ EnvF X.K F H hd env σ ∧ evs G src env (fun ds => srcW .rng ds fun xs => ∀ J F' H', Ext X.K hd F H F' H' → (∀ F2 hd2, Feeds X.K hd2 F2 J xs) → R J H') (RZ X.K X.mg hd F H fun c d H' => W c d σ H') := by
  have hl := chks_len c
  have st := chks_star c
  obtain ⟨p, pos, rfl, hg⟩ := callX_inv hx
  simp only [srcN, Bool.or_eq_true, beq_iff_eq] at hn
  rcases hn with hn | hn
  · obtain ⟨e, rfl⟩ := len1 hn
    obtain ⟨y, rfl⟩ := len1 (l := xs) (by rw [← hl]; exact hn)
    refine (pi_range1 (gl_of es hg) (x.free _ (by decide)) pa (by rw [starEach_of (st y (by simp))]; rfl)).imp fun σ H R ⟨F, hd, env, gd, en, q⟩ => ⟨F, hd, env, gd, en, ?_⟩
    simp only [evs] at q ⊢
    refine ev_mono G e (fun d q v F' H' T x o r => ?_) (fun _ z => z) q
    cases d with
    | int m =>
      obtain ⟨v, rfl, r'⟩ := r.inv1
      rw [(show v = V.int m from r')]
      obtain ⟨q1, q2, q3⟩ := q
      have fd := fun F2 hd2 => feeds_range (K := X.K) (hd := hd2) (F := F2) 0 m.toNat
      simp only [Int.zero_add] at fd
      exact ⟨m, rfl, q1, q2, q3 _ _ _ x fd⟩
    | _ => exact (show False from q).elim
  · obtain ⟨e, e', rfl⟩ := len2 hn
    obtain ⟨y, y', rfl⟩ := len2 (l := xs) (by rw [← hl]; exact hn)
    have s2 := starEach_of (st y' (by simp)) [] X.env
    have s1 := starEach_of (st y (by simp)) [y'] X.env
    refine (pi_range2 (gl_of es hg) (x.free _ (by decide)) pa (by rw [s1, s2]; rfl) (by rw [s2]; rfl)).imp fun σ H R ⟨F, hd, env, gd, en, q⟩ => ⟨F, hd, env, gd, en, ?_⟩
    simp only [evs] at q ⊢
    refine ev_mono G e (fun d q0 => ev_mono G e' (fun d' q v F' H' T x o r => ?_) (fun _ z => z) q0) (fun _ z => z) q
    cases d <;> cases d' <;> first
      | exact (show False from q).elim
      | (rename_i a b
         obtain ⟨v, u, _, _, rfl, _, _, _, r1, r2⟩ := r.inv2
         rw [(show v = V.int a from r1), (show u = V.int b from r2)]
         exact ⟨a, b, rfl, q.1, q.2 _ _ _ x fun F2 hd2 => feeds_range a (b - a).toNat⟩)
section
variable {K : Frag} {mg : Str → Option Value} {W : WX} {hd : Option Addr} {F0 H0 F H F1 H1 : Hp} {M : ASet} {env : Env'} {σ : L2.St} {P : Nat → ASet} {Φ : Post} {De : Ends} {G : Gam}
/-- a test -/
theorem test1 {X : Cx} {e : E} {Q : Bool → Prop} {R : Bool → Hp → Prop} (r : Rel X.K hd F0 H0 M F H env σ P) (rd : Rd X.K X.mg W hd F0 H0 M Φ De)
    (h : ev G e env (fun d => ∃ k, truthD d = some k ∧ Q k) (fun z => Φ.ex z env)) (k : ∀ b F' H', Q b → Rel X.K hd F0 H0 M F' H' env σ P → R b H') : TV X G W e σ H (Tru X.K R) :=
  ⟨_, hd, env, r.pgood, r.penv, ev_mono G e (fun d ⟨b, e, q⟩ v F' H' T x o rp => ⟨b, truth_ok x.good.sub rp e, k b _ H' q (r.back x o).1⟩) (fun z h => rd.err r h) h⟩
theorem Rel.own' (r : Rel K hd F0 H0 M F H env σ P) : Rel K hd F H0 M F H env σ P := ⟨r.good, r.len, r.get, r.own, r.apart, Same.refl F, r.keep, fun _ _ _ _ _ f => f, r.hc, r.pin⟩
theorem Rel.base {env' : Env'} {σ' : L2.St} {P' : Nat → ASet} (r : Rel K hd F0 H0 M F H env σ P) (r' : Rel K hd F H0 M F1 H1 env' σ' P') : Rel K hd F0 H0 M F1 H1 env' σ' P' :=
  ⟨r'.good, r'.len, r'.get, r'.own, r'.apart, r.sf.trans r'.sf, r'.keep, fun a o q m t f => r'.nof a o q m t (r.nof a o q m t f), r'.hc, r'.pin⟩
theorem TOk.none : TOk H0 M hd F H P (fun _ => False) := fun _ t => t.elim
/-- the turns of a walk -/
theorem turns {X : Cx} {tg : Tg} {J : L2.It} {xs : List D} {a : List S} {FJ : Hp} (r : Rel X.K hd F0 H0 M F H env σ P) (fd : Feeds X.K hd FJ J xs) (sj : Same FJ F) (I : Nat → Env' → Prop) (i0 : I 0 env) (fin : ∀ env', I xs.length env' → Φ.nx env') (rd : Rd X.K X.mg W hd F0 H0 M Φ De)
    (hm : ∀ b, M b → G.pin = true ∧ tg0 tg = false ∧ no0s a = true) (step : ∀ i d env', xs[i]? = some d → I i env' → ∃ env2, bindT tg (fr d) env' = some env2 ∧ wps G a env2 { nx := I (i + 1), rt := Φ.rt, bk := Φ.nx, ct := I (i + 1), ex := Φ.ex }) :
    ∃ Wf : Nat → Nat → L2.St → Hp → Prop, (∃ m, Wf 0 m σ H) ∧ ∀ i m σ H, Wf i m σ H → (J.stop i H ∧ De.nx σ H) ∨ (J.go i H ∧ ∃ N : L2.St → Hp → Prop, (∀ σ' H', N σ' H' → ∃ m', m' < m ∧ Wf (i + 1) m' σ' H') ∧
      ∀ x H', J.yld i H x H' → TGr tg x σ H' fun σ2 H2 => TSvs X G W a { nx := N, rt := De.rt, bk := De.nx, ct := N } σ2 H2) := by
  refine ⟨fun i m σ' H' => i + m = xs.length ∧ ∃ F' env' P', Rel X.K hd F H0 M F' H' env' σ' P' ∧ I i env', ⟨xs.length, by simp, F, env, P, r.own', i0⟩, fun i m σ' H' ⟨e, F', env', P', r', hI⟩ => ?_⟩
  cases m with
  | zero =>
    refine .inl ⟨fd.stop i F' H' (sj.trans r'.sf) r'.good (by omega), rd.nx _ F' H' env' P' (r.base r') (fin env' ?_)⟩
    rw [show xs.length = i by omega]; exact hI
  | succ m =>
    refine .inr ⟨fd.go i F' H' (sj.trans r'.sf) r'.good (by omega), fun σ3 H3 => ∃ F3 env3 P3, Rel X.K hd F H0 M F3 H3 env3 σ3 P3 ∧ I (i + 1) env3, fun σ3 H3 h => ⟨m, by omega, by omega, h⟩, fun v H2 y => ?_⟩
    have hd0 : xs[i]? = some (xs[i]'(by omega)) := List.getElem?_eq_getElem (by omega)
    obtain ⟨F2, x, p⟩ := fd.yld i F' H' v H2 (sj.trans r'.sf) r'.good y _ hd0
    obtain ⟨env2, b, w⟩ := step i _ env' hd0 hI
    obtain ⟨σ2, P2, b1, b2, _⟩ := Rel.bind tg (fun a m => (hm a m).2.1) (r'.ext x) p TOk.none b
    refine ⟨σ2, b1, hd, F, H0, M, F2, env2, P2, _, b2, w, ⟨fun σ F3 H env P r h => ⟨F3, env, P, r, h⟩, fun σ F3 H env P r3 h => rd.nx σ F3 H env P (r.base r3) h, fun σ F3 H env P r h => ⟨F3, env, P, r, h⟩, fun σ F3 H env P d v T r3 => rd.rt σ F3 H env P d v T (r.base r3), fun σ F3 H env P z c dx r3 => rd.ex σ F3 H env P z c dx (r.base r3)⟩, fun a m => ⟨(hm a m).1, (hm a m).2.2⟩⟩
end
section
variable {G : Gam} {n : NB} {cls : List Str} {X : Cx} {sc : Scope} {W : WX}
theorem aug_ok {op : Operator} (h : (op == .Add || op == .Sub) = true) : ∃ ti : TIp, PIp X op ti ∧ ∀ (x y : D) (Q : D → Prop), augW op x y Q → ∃ i j k : Int, x = .int i ∧ y = .int j ∧ Q (.int k) ∧ ∀ (H : Hp) (R : V → Hp → Prop), R (.int k) H → ti (.int i) (.int j) H R := by
  cases op with
  | Add =>
    refine ⟨_, ip_add, fun x y Q q => ?_⟩
    cases x <;> cases y <;> first | exact (show False from q).elim | exact ⟨_, _, _, rfl, rfl, q, fun H R r => ⟨_, _, rfl, rfl, r⟩⟩
  | Sub =>
    refine ⟨_, ip_sub, fun x y Q q => ?_⟩
    cases x <;> cases y <;> first | exact (show False from q).elim | exact ⟨_, _, _, rfl, rfl, q, fun H R r => ⟨_, _, rfl, rfl, r⟩⟩
  | _ => simp at h <;> contradiction
theorem pe_nm (o : SOk X G n cls sc) {i : Nat} {x : Str} {p : Pos} (c : chk G n X.N sc (.var i) (.Name x p) = true) : PE X (.Name x p) fun σ H Q => ∃ v, σ[i]? = some (some v) ∧ Q v H := by
  simp only [chk, Bool.and_eq_true, decide_eq_true_eq] at c
  obtain ⟨c1, c2, c3⟩ := c
  obtain ⟨d1, d2, _⟩ := okName_db c3
  exact pe_var c1 (vis_of o.es c2) d1 d2
/-- the pieces of a comprehension -/
theorem lcs_ok (o : SOk X G n cls sc) (tk : Takes X W) {i : Nat} {y : Str} {q sp : Pos} {own : List (Str × Nat)} {tg : Tg} {k : It} {src : List E} {tc : Option E} {elt : E} {z : Expr} {gens : List Comprehension} {scope : Scope} {p : Pos}
    (sw : swB sc (.ListComp z gens scope p) (.Name y q) = true) (hi : X.N[i]? = some y) (c : chk G n X.N sc (.lc own tg k src tc elt) (.ListComp z gens scope p) = true) :
    PS X (.Assign [.Name y q] (.ListComp z gens scope p) sp) (tAsg (TV X G W (.lc own tg k src tc elt)) (gName i)) := by
  have x := o.x
  have hl : X.env.scope.names.lookup y = some .local := by
    rw [o.es]
    simp only [swB, Bool.and_eq_true, beq_iff_eq] at sw
    exact sw.1.1
  have hs : swapsWith (.ListComp z gens scope p) (some (.Name y q)) sp.line X.env = pure true := by rw [swaps_eq o.es o.kf rfl, sw]
  match gens, c with
  | [⟨t, it, ifs, asy⟩], c =>
    by_cases ha : asy = 0
    · subst ha
      simp only [chk, Bool.and_eq_true] at c
      obtain ⟨⟨cb, cn, cs⟩, ⟨ct, ci⟩, cc, ce⟩ := c
      split at cs
      · rename_i xs hx
        obtain ⟨pa, pe1⟩ := snds src xs X n sc W o.es x cs tk
        have hpi := pi_src x o.es cn hx cs pa pe1 (t := t)
        have es := o.es
        subst es
        have hc' : ∀ (s : Shared) (H : Hp) (C : Addr) (cl : List (Str × Addr)) (fp : List Addr), XOk (X.blk s H scope (compEnvC scope cl C X.env) fp) G n := fun s H C cl fp => x.blk s H scope _ fp rfl rfl
        refine (ps_setLc x.calm x.nd hi hl hs hpi (blkOk_by cb) (g := TGv X.K tg) (tt := TCv X G tc) (te := TV X G W0 elt) (fun s H C cl fp => ?_) (fun s H C cl fp => ?_) (fun s H C cl fp => ?_) (fold_of (srcX_set hx) X.env)).imp fun D σ H q => lc_read ci q
        · exact pg_fro (pg_snd (ownSc_blk x.nd x.calm) tg t ct)
        · exact sndC tc ifs (X.blk s H scope (compEnvC scope cl C X.env) fp) n (relS scope X.env.scope) rfl (hc' s H C cl fp) cc
        · exact (snd elt z (X.blk s H scope (compEnvC scope cl C X.env) fp) n (relS scope X.env.scope) W0 rfl (hc' s H C cl fp) ce takes0).1
      · cases cs
    · exfalso
      unfold chk at c
      split at c
      all_goals first
        | (cases c; done)
        | skip
      all_goals simp_all
  | [], c => simp [chk] at c
  | _ :: _ :: _, c => simp [chk] at c
end
end Wk
end sec_W14

section sec_W14c
set_option Elab.async false
set_option linter.all false
set_option maxRecDepth 100000
set_option maxHeartbeats 8000000
namespace Wk
open PySem PySem.Spec PyProof.Rows L2
variable [Tab]
section
variable {G : Gam} {n : NB} {N cls : List Str} {sc : Scope}
theorem inv_asg {tg : Tg} {e : E} {st : Stmt} (h : chkS G n N cls sc (.asg tg e) st = true) : ∃ t x p, st = .Assign [t] x p ∧ asgOk sc t x = true ∧ chkT N sc tg t = true ∧ chk G n N sc e x = true := by
  unfold chkS at h
  split at h
  all_goals try contradiction
  rename_i heq
  cases heq
  try simp only [Bool.and_eq_true, decide_eq_true_eq, Bool.not_eq_true', decide_eq_false_iff_not] at h
  exact ⟨_, _, _, rfl, h⟩

theorem inv_mov {L : List Nat} {tg : Tg} {e : E} {st : Stmt} (h : chkS G n N cls sc (.mov L tg e) st = true) : ∃ t x p, st = .Assign [t] x p ∧ asgOk sc t x = true ∧ chkT N sc tg t = true ∧ chk G n N sc e x = true := by
  unfold chkS at h
  split at h
  all_goals try contradiction
  rename_i heq
  cases heq
  try simp only [Bool.and_eq_true, decide_eq_true_eq, Bool.not_eq_true', decide_eq_false_iff_not] at h
  exact ⟨_, _, _, rfl, h⟩

theorem inv_lcs {i : Nat} {own : List (Str × Nat)} {tg : Tg} {k : It} {src : List E} {c : Option E} {elt : E} {st : Stmt} (h : chkS G n N cls sc (.lcs i own tg k src c elt) st = true) : ∃ y q z gens scope p sp, st = .Assign [.Name y q] (.ListComp z gens scope p) sp ∧ swB sc (.ListComp z gens scope p) (.Name y q) = true ∧ N[i]? = some y ∧ chk G n N sc (.lc own tg k src c elt) (.ListComp z gens scope p) = true := by
  unfold chkS at h
  split at h
  all_goals try contradiction
  rename_i heq
  cases heq
  try simp only [Bool.and_eq_true, decide_eq_true_eq, Bool.not_eq_true', decide_eq_false_iff_not] at h
  exact ⟨_, _, _, _, _, _, _, rfl, h⟩

theorem inv_par {i j : Nat} {a b : E} {st : Stmt} (h : chkS G n N cls sc (.par i j a b) st = true) : ∃ x px y py kt pt u v ku pu sp, st = .Assign [.Tuple [.Name x px, .Name y py] kt pt] (.Tuple [u, v] ku pu) sp ∧ (N[i]? = some x ∧ (N[j]? = some y ∧ (¬ i = j ∧ (locL sc x = true ∧ locL sc y = true)))) ∧ (([u, v].all (constantsAlone 8) = false ∧ swNames (fun x => sc.names.lookup x) [.Name x px, .Name y py] [u, v] = some [x, y]) ∧ chks G n N sc [a, b] [u, v] = true) := by
  unfold chkS at h
  split at h
  all_goals try contradiction
  rename_i heq
  cases heq
  try simp only [Bool.and_eq_true, decide_eq_true_eq, Bool.not_eq_true', decide_eq_false_iff_not] at h
  exact ⟨_, _, _, _, _, _, _, _, _, _, _, rfl, h⟩

theorem inv_par3 {i j l : Nat} {a b c : E} {st : Stmt} (h : chkS G n N cls sc (.par3 i j l a b c) st = true) : ∃ x px y py z pz kt pt u v w ku pu sp, st = .Assign [.Tuple [.Name x px, .Name y py, .Name z pz] kt pt] (.Tuple [u, v, w] ku pu) sp ∧ (N[i]? = some x ∧ (N[j]? = some y ∧ (N[l]? = some z ∧ ((¬ i = j ∧ (¬ i = l ∧ ¬ j = l)) ∧ (locL sc x = true ∧ (locL sc y = true ∧ locL sc z = true)))))) ∧ (([u, v, w].all (constantsAlone 8) = false ∧ swNames (fun x => sc.names.lookup x) [.Name x px, .Name y py, .Name z pz] [u, v, w] = some [x, y, z]) ∧ chks G n N sc [a, b, c] [u, v, w] = true) := by
  unfold chkS at h
  split at h
  all_goals try contradiction
  rename_i heq
  cases heq
  try simp only [Bool.and_eq_true, decide_eq_true_eq, Bool.not_eq_true', decide_eq_false_iff_not] at h
  exact ⟨_, _, _, _, _, _, _, _, _, _, _, _, _, _, rfl, h⟩

theorem inv_app {i : Nat} {e : E} {st : Stmt} (h : chkS G n N cls sc (.app i e) st = true) : ∃ x p apos y cpos sp, st = .Expr (.Call (.Attribute (.Name x p) "append" apos) [y] [] cpos) sp ∧ (apos.endLine == cpos.line) = true ∧ isStar y = false ∧ chk G n N sc (.var i) (.Name x p) = true ∧ chk G n N sc e y = true := by
  unfold chkS at h
  split at h
  all_goals try contradiction
  rename_i heq
  cases heq
  try simp only [Bool.and_eq_true, decide_eq_true_eq, Bool.not_eq_true', decide_eq_false_iff_not] at h
  obtain ⟨⟨rfl, h1, h2⟩, h3, h4⟩ := h
  exact ⟨_, _, _, _, _, _, rfl, h1, h2, h3, h4⟩

theorem inv_set {i : Nat} {k e : E} {st : Stmt} (h : chkS G n N cls sc (.set i k e) st = true) : ∃ x p z q y sp, st = .Assign [.Subscript (.Name x p) z q] y sp ∧ (isSlice z = false ∧ (setOrDict y = false ∧ isStar y = false)) ∧ (chk G n N sc (.var i) (.Name x p) = true ∧ (chk G n N sc k z = true ∧ chk G n N sc e y = true)) := by
  unfold chkS at h
  split at h
  all_goals try contradiction
  rename_i heq
  cases heq
  try simp only [Bool.and_eq_true, decide_eq_true_eq, Bool.not_eq_true', decide_eq_false_iff_not] at h
  exact ⟨_, _, _, _, _, _, rfl, h⟩

theorem inv_aug {i : Nat} {op : Operator} {e : E} {st : Stmt} (h : chkS G n N cls sc (.aug i op e) st = true) : ∃ x p y sp, st = .AugAssign (.Name x p) op y sp ∧ (op == .Add || op == .Sub) = true ∧ (N[i]? = some x ∧ locB sc x = true) ∧ chk G n N sc e y = true := by
  unfold chkS at h
  split at h
  all_goals try contradiction
  rename_i heq
  cases heq
  try simp only [Bool.and_eq_true, decide_eq_true_eq, Bool.not_eq_true', decide_eq_false_iff_not] at h
  obtain ⟨⟨rfl, h1⟩, h3, h4⟩ := h
  exact ⟨_, _, _, _, rfl, h1, h3, h4⟩

theorem inv_ret {e : E} {st : Stmt} (h : chkS G n N cls sc (.ret e) st = true) : ∃ x p, st = .Return (some x) p ∧ chk G n N sc e x = true := by
  unfold chkS at h
  split at h
  all_goals try contradiction
  rename_i heq
  cases heq
  try simp only [Bool.and_eq_true, decide_eq_true_eq, Bool.not_eq_true', decide_eq_false_iff_not] at h
  exact ⟨_, _, rfl, h⟩

theorem inv_retL {L : List Nat} {e : E} {st : Stmt} (h : chkS G n N cls sc (.retL L e) st = true) : ∃ x p, st = .Return (some x) p ∧ chk G n N sc e x = true := by
  unfold chkS at h
  split at h
  all_goals try contradiction
  rename_i heq
  cases heq
  try simp only [Bool.and_eq_true, decide_eq_true_eq, Bool.not_eq_true', decide_eq_false_iff_not] at h
  exact ⟨_, _, rfl, h⟩

theorem inv_retA {e : E} {st : Stmt} (h : chkS G n N cls sc (.retA e) st = true) : ∃ x p, st = .Return (some x) p ∧ chk G n N sc e x = true := by
  unfold chkS at h
  split at h
  all_goals try contradiction
  rename_i heq
  cases heq
  try simp only [Bool.and_eq_true, decide_eq_true_eq, Bool.not_eq_true', decide_eq_false_iff_not] at h
  exact ⟨_, _, rfl, h⟩

theorem inv_movA {tg : Tg} {e : E} {st : Stmt} (h : chkS G n N cls sc (.movA tg e) st = true) : ∃ t x p, st = .Assign [t] x p ∧ asgOk sc t x = true ∧ chkT N sc tg t = true ∧ chk G n N sc e x = true := by
  unfold chkS at h
  split at h
  all_goals try contradiction
  rename_i heq
  cases heq
  try simp only [Bool.and_eq_true, decide_eq_true_eq, Bool.not_eq_true', decide_eq_false_iff_not] at h
  exact ⟨_, _, _, rfl, h⟩

theorem inv_retv {i : Nat} {st : Stmt} (h : chkS G n N cls sc (.retv i) st = true) : ∃ x p, st = .Return (some x) p ∧ chk G n N sc (.var i) x = true := by
  unfold chkS at h
  split at h
  all_goals try contradiction
  rename_i heq
  cases heq
  try simp only [Bool.and_eq_true, decide_eq_true_eq, Bool.not_eq_true', decide_eq_false_iff_not] at h
  exact ⟨_, _, rfl, h⟩

theorem inv_retN  {st : Stmt} (h : chkS G n N cls sc (.retN) st = true) : ∃ p, st = .Return none p ∧ True := by
  unfold chkS at h
  split at h
  all_goals try contradiction
  rename_i heq
  cases heq
  exact ⟨_, rfl, trivial⟩

theorem inv_ife {c : E} {a b : List S} {st : Stmt} (h : chkS G n N cls sc (.ife c a b) st = true) : ∃ x u v p, st = .If x u v p ∧ chk G n N sc c x = true ∧ (chkSs G n N cls sc a u = true ∧ chkSs G n N cls sc b v = true) := by
  unfold chkS at h
  split at h
  all_goals try contradiction
  rename_i heq
  cases heq
  try simp only [Bool.and_eq_true, decide_eq_true_eq, Bool.not_eq_true', decide_eq_false_iff_not] at h
  exact ⟨_, _, _, _, rfl, h⟩

theorem inv_whl {c : E} {a : List S} {st : Stmt} (h : chkS G n N cls sc (.whl c a) st = true) : ∃ x u p, st = .While x u [] p ∧ chk G n N sc c x = true ∧ chkSs G n N cls sc a u = true := by
  unfold chkS at h
  split at h
  all_goals try contradiction
  rename_i heq
  cases heq
  try simp only [Bool.and_eq_true, decide_eq_true_eq, Bool.not_eq_true', decide_eq_false_iff_not] at h
  exact ⟨_, _, _, rfl, h⟩

theorem inv_fr {tg : Tg} {k : It} {src : List E} {a : List S} {st : Stmt} (h : chkS G n N cls sc (.fr tg k src a) st = true) : ∃ t it u p, st = .For t it u [] p ∧ k = .rng ∧ (srcN k src.length = true ∧ ∃ xs, srcX sc k t it = some xs ∧ chks G n N sc src xs = true) ∧ (chkT N sc tg t = true ∧ chkSs G n N cls sc a u = true) := by
  unfold chkS at h
  split at h
  all_goals try contradiction
  rename_i heq
  cases heq
  try simp only [Bool.and_eq_true, decide_eq_true_eq, Bool.not_eq_true', decide_eq_false_iff_not] at h
  obtain ⟨⟨h0, h1, h2⟩, h3⟩ := h
  split at h2
  · rename_i xs hx
    exact ⟨_, _, _, _, rfl, h0, ⟨h1, xs, hx, h2⟩, h3⟩
  · cases h2

theorem inv_frL {L : List Nat} {tg : Tg} {k : It} {src : List E} {a : List S} {st : Stmt} (h : chkS G n N cls sc (.frL L tg k src a) st = true) : ∃ t it u p, st = .For t it u [] p ∧ (srcN k src.length = true ∧ ∃ xs, srcX sc k t it = some xs ∧ chks G n N sc src xs = true) ∧ (chkT N sc tg t = true ∧ chkSs G n N cls sc a u = true) := by
  unfold chkS at h
  split at h
  all_goals try contradiction
  rename_i heq
  cases heq
  try simp only [Bool.and_eq_true, decide_eq_true_eq, Bool.not_eq_true', decide_eq_false_iff_not] at h
  obtain ⟨⟨h1, h2⟩, h3⟩ := h
  split at h2
  · rename_i xs hx
    exact ⟨_, _, _, _, rfl, ⟨h1, xs, hx, h2⟩, h3⟩
  · cases h2

theorem inv_expr {e : E} {st : Stmt} (h : chkS G n N cls sc (.expr e) st = true) : ∃ x p, st = .Expr x p ∧ isComp x = false ∧ chk G n N sc e x = true := by
  unfold chkS at h
  split at h
  all_goals try contradiction
  rename_i heq
  cases heq
  try simp only [Bool.and_eq_true, decide_eq_true_eq, Bool.not_eq_true', decide_eq_false_iff_not] at h
  exact ⟨_, _, rfl, h⟩

theorem inv_rse {x : Str} {st : Stmt} (h : chkS G n N cls sc (.rse x) st = true) : ∃ q p p2, st = .Raise (some (.Call (.Name x q) [] [] p)) none p2 ∧ x ∈ cls ∧ gloB sc x = true ∧ okName x = true := by
  unfold chkS at h
  split at h
  all_goals try contradiction
  rename_i heq
  cases heq
  try simp only [Bool.and_eq_true, decide_eq_true_eq, Bool.not_eq_true', decide_eq_false_iff_not] at h
  obtain ⟨rfl, h1, h2⟩ := h
  exact ⟨_, _, _, rfl, List.contains_iff_mem.mp h1, h2⟩

theorem inv_pas  {st : Stmt} (h : chkS G n N cls sc (.pas) st = true) : ∃ p, st = .Pass p ∧ True := by
  unfold chkS at h
  split at h
  all_goals try contradiction
  rename_i heq
  cases heq
  exact ⟨_, rfl, trivial⟩

theorem inv_brk  {st : Stmt} (h : chkS G n N cls sc (.brk) st = true) : ∃ p, st = .Break p ∧ True := by
  unfold chkS at h
  split at h
  all_goals try contradiction
  rename_i heq
  cases heq
  exact ⟨_, rfl, trivial⟩

theorem inv_cnt  {st : Stmt} (h : chkS G n N cls sc (.cnt) st = true) : ∃ p, st = .Continue p ∧ True := by
  unfold chkS at h
  split at h
  all_goals try contradiction
  rename_i heq
  cases heq
  exact ⟨_, rfl, trivial⟩
end
end Wk
end sec_W14c

section sec_W15
set_option Elab.async false
set_option linter.all false
set_option maxRecDepth 100000
set_option maxHeartbeats 8000000
namespace Wk
open PySem PySem.Spec PyProof.Rows L2
variable [Tab]
section
variable {G : Gam} {n : NB} {cls : List Str} {X : Cx} {sc : Scope} {W : WX}
theorem asg_ps (o : SOk X G n cls sc) {t ex : Expr} {te : TE} {tg : Tg} {pos : Pos} (ok : asgOk sc t ex = true) (ct : chkT X.N sc tg t = true) (pe : PE X ex te) : PS X (.Assign [t] ex pos) (tAsg te (TGr tg)) := by
  unfold asgOk at ok
  simp only [Bool.and_eq_true, Bool.not_eq_true'] at ok
  obtain ⟨h1, h2, h3, h4⟩ := ok
  refine ps_asg pe (pg_snd o.own tg t ct) ?_ (stores_none o.es o.kf h4) (each_one h1 X.env)
  show swapsWith ex (some t) pos.line X.env = pure false
  rw [swaps_eq o.es o.kf h2, h3]
theorem locL_of (o : SOk X G n cls sc) {y : Str} (h : locL sc y = true) : X.env.scope.names.lookup y = some .local := by
  rw [o.es]; exact of_decide_eq_true h
theorem Reps.inv3 {K : Frag} {F H : Hp} {hd : Option Addr} {d e f : D} {vs : List V} {T : ASet} (h : Reps K F H hd [d, e, f] vs T) : ∃ v u w T1 T2 T3, vs = [v, u, w] ∧ (∀ a, T1 a → T a) ∧ (∀ a, T2 a → T a) ∧ (∀ a, T3 a → T a) ∧ (∀ a, T1 a → ¬ T2 a) ∧ (∀ a, T1 a → ¬ T3 a) ∧ (∀ a, T2 a → ¬ T3 a) ∧ Rep K F H hd d v T1 ∧ Rep K F H hd e u T2 ∧ Rep K F H hd f w T3 := by
  obtain ⟨v, r, T1, T', rfl, s1, s', n1, p1, q⟩ := h
  obtain ⟨u, w, T2, T3, rfl, s2, s3, n2, p2, p3⟩ := q.inv2
  exact ⟨v, u, w, T1, T2, T3, rfl, s1, fun a t => s' a (s2 a t), fun a t => s' a (s3 a t), fun a t t' => n1 a t (s2 a t'), fun a t t' => n1 a t (s3 a t'), n2, p1, p2, p3⟩
theorem par_sw (o : SOk X G n cls sc) {ts vs : List Expr} {kt ku : Nat} {pt pu : Pos} {xs : List Str} (h1 : vs.all (constantsAlone 8) = false) (h2 : swNames (fun x => sc.names.lookup x) ts vs = some xs) : swappedStores [.Tuple ts kt pt] (.Tuple vs ku pu) X.env = pure (some xs) := by
  have es := o.es
  subst es
  rw [swapped_eq o.kf h1]
  exact congrArg pure h2
theorem sub_assign {o i : Expr} {pos : Pos} {env : Env} (h : isSlice i = false) : ∀ (v : Value), assign (o.Subscript i pos) env v = (do
      let ov ← holding [v] (eval o env)
      let iv ← holding [v, ov] (eval i env)
      standAt pos
      holding [v, ov, iv] (setItem ov iv v)
      release [v, ov, iv] []) := by
  cases i <;> first | (simp [isSlice] at h; done) | (intro v; rfl)
theorem attr_name {x m : Str} {p : Pos} {env : Env} {w : Sem Value} : attributeBase (.Name x p) m env w = w := rfl
mutual
theorem sndS : ∀ (s : S) (st : Stmt), SOk X G n cls sc → chkS G n X.N cls sc s st = true → Takes X W → PS X st (TSv X G W s)
  | .asg tg e, st, o, c, tk => by
    obtain ⟨t, x, p, rfl, c1, c2, c3⟩ := inv_asg c
    refine (asg_ps o c1 c2 (snd e x X n sc W o.es o.x c3 tk).1).imp fun De σ H ⟨hd, F0, H0, M, F, env, P, Φ, r, w, rd, hm⟩ => ?_
    simp only [wp] at w
    refine val1 r rd w fun d v F' H' T ⟨cd, env', b, q⟩ r' t' rp => ?_
    obtain ⟨σ', P', b1, b2, _⟩ := Rel.bind tg (fun a m => by simpa [no0] using (hm a m).2) r' (rp cd) t' b
    exact ⟨σ', b1, rd.nx σ' F' H' env' P' b2 q⟩
  | .mov L tg e, st, o, c, tk => by
    obtain ⟨t, x, p, rfl, c1, c2, c3⟩ := inv_mov c
    refine (asg_ps o c1 c2 (snd e x X n sc W o.es o.x c3 tk).1).imp fun De σ H ⟨hd, F0, H0, M, F, env, P, Φ, r, w, rd, hm⟩ => ?_
    simp only [wp] at w
    refine valL r rd w fun d v F' H' T ⟨env', b, q⟩ r' t' rp => ?_
    obtain ⟨σ', P', b1, b2, _⟩ := Rel.bind tg (fun a m => by simpa [no0] using (hm a m).2) r' rp t' b
    exact ⟨σ', b1, rd.nx σ' F' H' env' P' b2 q⟩
  | .lcs i own tg k src tc elt, st, o, c, tk => by
    obtain ⟨y, q, z, gens, scope, p, sp, rfl, c1, c2, c3⟩ := inv_lcs c
    refine (lcs_ok o tk c1 c2 c3).imp fun De σ H ⟨hd, F0, H0, M, F, env, P, Φ, r, w, rd, hm⟩ => ?_
    simp only [wp, lcE] at w
    refine val1 r rd w fun d v F' H' T ⟨cd, q⟩ r' t' rp => ?_
    exact rd.nx _ F' H' _ _ (r'.set (fun a m => by simpa [no0] using (hm a m).2) (rp cd) t') q
  | .par i j a b, st, o, c, tk => by
    obtain ⟨x, px, y, py, kt, pt, u, v, ku, pu, sp, rfl, ⟨c1, c2, c3, c4, c5⟩, ⟨c6, c7⟩, c8⟩ := inv_par c
    refine (ps_par o.x.calm o.x.nd c1 c2 c3 (locL_of o c4) (locL_of o c5) (snds [a, b] [u, v] X n sc W o.es o.x c8 tk).1 (par_sw o c6 c7)).imp fun De σ H ⟨hd, F0, H0, M, F, env, P, Φ, r, w, rd, hm⟩ => ?_
    simp only [wp] at w
    refine ⟨_, hd, env, r.pgood, r.penv, ?_⟩
    simp only [evs]
    refine ev_mono G a (fun d q => ev_mono G b (fun d' q us F' H' T x ow rs => ?_) (fun z h => rd.err r h) q) (fun z h => rd.err r h) w
    obtain ⟨k1, k2, q⟩ := q
    obtain ⟨v1, v2, T1, T2, rfl, s1, s2, nn, p1, p2⟩ := rs.inv2
    obtain ⟨r', t', cc, _⟩ := r.back x ow
    have r1 := r'.set (i := i) (fun a m => by have := (hm a m).2; simp [no0] at this; exact this.1) (cc k1 p1) (t'.sub s1)
    have r2 := r1.set (i := j) (fun a m => by have := (hm a m).2; simp [no0] at this; exact this.2) (cc k2 p2) ((t'.sub s2).set fun a h h' => nn a h' h)
    exact ⟨v1, v2, rfl, rd.nx _ _ _ _ _ r2 q⟩
  | .par3 i j l a b e, st, o, c, tk => by
    obtain ⟨x, px, y, py, z, pz, kt, pt, u, v, w, ku, pu, sp, rfl, ⟨c1, c2, c3, ⟨n1, n2, n3⟩, c4, c5, c9⟩, ⟨c6, c7⟩, c8⟩ := inv_par3 c
    refine (ps_par3 o.x.calm o.x.nd c1 c2 c3 n1 n2 n3 (locL_of o c4) (locL_of o c5) (locL_of o c9) (snds [a, b, e] [u, v, w] X n sc W o.es o.x c8 tk).1 (par_sw o c6 c7)).imp fun De σ H ⟨hd, F0, H0, M, F, env, P, Φ, r, w, rd, hm⟩ => ?_
    simp only [wp] at w
    refine ⟨_, hd, env, r.pgood, r.penv, ?_⟩
    simp only [evs]
    refine ev_mono G a (fun d q => ev_mono G b (fun d' q => ev_mono G e (fun d'' q us F' H' T x ow rs => ?_) (fun z h => rd.err r h) q) (fun z h => rd.err r h) q) (fun z h => rd.err r h) w
    obtain ⟨k1, k2, k3, q⟩ := q
    obtain ⟨v1, v2, v3, T1, T2, T3, rfl, s1, s2, s3, n12, n13, n23, p1, p2, p3⟩ := Reps.inv3 rs
    obtain ⟨r', t', cc, _⟩ := r.back x ow
    have r1 := r'.set (i := i) (fun a m => by have := (hm a m).2; simp [no0] at this; exact this.1) (cc k1 p1) (t'.sub s1)
    have r2 := r1.set (i := j) (fun a m => by have := (hm a m).2; simp [no0] at this; exact this.2.1) (cc k2 p2) ((t'.sub s2).set fun a h h' => n12 a h' h)
    have r3 := r2.set (i := l) (fun a m => by have := (hm a m).2; simp [no0] at this; exact this.2.2) (cc k3 p3) (((t'.sub s3).set fun a h h' => n13 a h' h).set fun a h h' => n23 a h' h)
    exact ⟨v1, v2, v3, rfl, rd.nx _ _ _ _ _ r3 q⟩
  | .app i e, st, o, c, tk => by
    obtain ⟨x, p, apos, y, cpos, sp, rfl, c1, c2, c3, c4⟩ := inv_app c
    have hs := starEach_of c2 [] X.env
    have pe := pe_bm (cpos := cpos) (apos := apos) PySem.F.plainAttrs_list PySem.F.slot_list_append PySem.F.type_list_append mt_append (pe_nm o c3) (pa_cons (snd e y X n sc W o.es o.x c4 tk).1 pa_nil hs) attr_name (by rw [hs]; rfl) c1 hs rfl
    refine (ps_expr pe (swaps_none rfl _)).imp fun De σ H ⟨hd, F0, H0, M, F, env, P, Φ, r, w, rd, hm⟩ => ?_
    simp only [wp] at w
    obtain ⟨xs, e1, hl, w⟩ := w
    obtain ⟨v0, q0, a0, vs0, rfl, ta0, ha0, rs0⟩ := r.get i _ e1
    refine ⟨.ref a0, q0, .inl ⟨rfl, _, SqL.of ha0⟩, ?_⟩
    refine val1 r rd w fun d v F' H' T ⟨cd, q⟩ r' t' rp => ?_
    obtain ⟨a, vs, q1, ha, hlen, P', r2⟩ := r'.app e1 t' (rp cd)
    rw [q0] at q1
    cases q1
    exact ⟨a0, vs, v, rfl, rfl, ha, by omega, rd.nx _ _ _ _ _ r2 q⟩
  | .set i k e, st, o, c, tk => by
    obtain ⟨x, p, z, q, y, sp, rfl, ⟨c1, c2, c3⟩, c4, c5, c6⟩ := inv_set c
    refine (ps_asg (snd e y X n sc W o.es o.x c6 tk).1 (pg_sub (pe_nm o c4) (snd k z X n sc W o.es o.x c5 tk).1 set_list (sub_assign c1)) (by rw [show swapsWithSole [.Subscript (.Name x p) z q] y sp.line X.env = swapsWith y (some (.Subscript (.Name x p) z q)) sp.line X.env from rfl, swaps_eq o.es o.kf c2]; cases y <;> rfl) (by cases y <;> rfl) (each_one rfl X.env)).imp fun De σ H ⟨hd, F0, H0, M, F, env, P, Φ, r, w, rd, hm⟩ => ?_
    simp only [wp] at w
    obtain ⟨xs, e1, w⟩ := w
    refine val1 r rd w fun d v F' H' T ⟨cd, q⟩ r' t' rp => ?_
    obtain ⟨v0, q0, a0, vs0, rfl, ta0, ha0, rs0⟩ := r'.get i _ e1
    refine ⟨.ref a0, q0, _, hd, env, r'.pgood, r'.penv, ev_mono G k (fun y q v1 F1 H1 T1 x1 o1 p1 => ?_) (fun z h => rd.err r' h) q⟩
    obtain ⟨j, m, rfl, hix, hp, q⟩ := q
    obtain ⟨r2, t2, cc, s2⟩ := r'.back x1 o1
    have t3 := TOk.back r' t' x1
    have rp3 := Rep.back (rp cd) t' s2 x1
    obtain ⟨a, vs, q1, ha, hlen, P', r3⟩ := r2.setAt (m := m) (fun ⟨a, z⟩ => hp (hm a z).1) e1 t3 rp3
    rw [q0] at q1
    cases q1
    exact ⟨a0, vs, j, m, rfl, p1, ha, by rw [hlen]; exact hix, rd.nx _ _ _ _ _ r3 q⟩
  | .aug i op e, st, o, c, tk => by
    obtain ⟨x, p, y, sp, rfl, c1, ⟨c2, c3⟩, c4⟩ := inv_aug c
    obtain ⟨ti, hti, hin⟩ := aug_ok c1
    obtain ⟨l1, l2⟩ := o.own.own x c3
    refine (ps_aug o.x.nd c2 l1 (snd e y X n sc W o.es o.x c4 tk).1 hti l2).imp fun De σ H ⟨hd, F0, H0, M, F, env, P, Φ, r, w, rd, hm⟩ => ?_
    simp only [wp] at w
    obtain ⟨d0, e1, w⟩ := w
    obtain ⟨v0, q0, p0⟩ := r.get i _ e1
    refine ⟨v0, q0, val1 r rd w fun d v F' H' T q r' t' rp => ?_⟩
    obtain ⟨a, b, k, rfl, rfl, q, hR⟩ := hin _ _ _ q
    rw [(show v0 = V.int a from p0), (show v = V.int b from rp rfl)]
    exact hR _ _ (rd.nx _ _ _ _ _ (r'.set (d := .int k) (fun a m => by simpa [no0] using (hm a m).2) (T := fun _ => False) rfl TOk.none) q)
  | .ret e, st, o, c, tk => by
    obtain ⟨x, p, rfl, c1⟩ := inv_ret c
    refine (ps_ret (snd e x X n sc W o.es o.x c1 tk).1).imp fun De σ H ⟨hd, F0, H0, M, F, env, P, Φ, r, w, rd, hm⟩ => ?_
    simp only [wp] at w
    exact val1 r rd w fun d v F' H' T ⟨cd, q⟩ r' t' rp => rd.rt _ _ _ _ _ d v T r' (rp cd) t' q
  | .retL L e, st, o, c, tk => by
    obtain ⟨x, p, rfl, c1⟩ := inv_retL c
    refine (ps_ret (snd e x X n sc W o.es o.x c1 tk).1).imp fun De σ H ⟨hd, F0, H0, M, F, env, P, Φ, r, w, rd, hm⟩ => ?_
    simp only [wp] at w
    exact valL r rd w fun d v F' H' T q r' t' rp => rd.rt _ _ _ _ _ d v T r' rp t' q
  | .retA e, st, o, c, tk => by
    obtain ⟨x, p, rfl, c1⟩ := inv_retA c
    refine (ps_ret (snd e x X n sc W o.es o.x c1 tk).1).imp fun De σ H ⟨hd, F0, H0, M, F, env, P, Φ, r, w, rd, hm⟩ => ?_
    simp only [wp] at w
    exact valA (.inl rfl) r rd w fun d v F' H' T q r' t' rp => rd.rt _ _ _ _ _ d v T r' rp t' q
  | .movA tg e, st, o, c, tk => by
    obtain ⟨t, x, p, rfl, c1, c2, c3⟩ := inv_movA c
    refine (asg_ps o c1 c2 (snd e x X n sc W o.es o.x c3 tk).1).imp fun De σ H ⟨hd, F0, H0, M, F, env, P, Φ, r, w, rd, hm⟩ => ?_
    simp only [wp] at w
    refine valA (.inr rfl) r rd w fun d v F' H' T ⟨env', b, q⟩ r' t' rp => ?_
    obtain ⟨σ', P', b1, b2, _⟩ := Rel.bind tg (fun a m => by simpa [no0] using (hm a m).2) r' rp t' b
    exact ⟨σ', b1, rd.nx σ' F' H' env' P' b2 q⟩
  | .retv i, st, o, c, tk => by
    obtain ⟨x, p, rfl, c1⟩ := inv_retv c
    cases x with
    | Name y q =>
      refine (ps_ret (pe_nm o c1)).imp fun De σ H ⟨hd, F0, H0, M, F, env, P, Φ, r, w, rd, hm⟩ => ?_
      simp only [wp] at w
      obtain ⟨d, e, w⟩ := w
      obtain ⟨v, q1, q2, q3, q4⟩ := r.drop e
      exact ⟨v, q1, rd.rt _ _ _ _ _ d v _ q4 q2 q3 w⟩
    | _ => simp [chk] at c1
  | .retN, st, o, c, tk => by
    obtain ⟨p, rfl, _⟩ := inv_retN c
    refine ps_retN.imp fun De σ H ⟨hd, F0, H0, M, F, env, P, Φ, r, w, rd, hm⟩ => ?_
    simp only [wp] at w
    exact rd.rt _ _ _ _ _ .non .non (fun _ => False) r rfl TOk.none w
  | .ife t a b, st, o, c, tk => by
    obtain ⟨x, u, v, p, rfl, c1, c2, c3⟩ := inv_ife c
    refine (ps_if (snd t x X n sc W o.es o.x c1 tk).2 (sndSs a u o c2 tk) (sndSs b v o c3 tk)).imp fun De σ H ⟨hd, F0, H0, M, F, env, P, Φ, r, w, rd, hm⟩ => ?_
    simp only [wp] at w
    refine test1 r rd w fun k F' H' q r' => ?_
    cases k with
    | true => exact iteT ⟨hd, F0, H0, M, F', env, P, Φ, r', by simpa using q, rd, fun a m => by have := hm a m; simp [no0] at this; exact ⟨this.1, this.2.1⟩⟩
    | false => exact iteF ⟨hd, F0, H0, M, F', env, P, Φ, r', by simpa using q, rd, fun a m => by have := hm a m; simp [no0] at this; exact ⟨this.1, this.2.2⟩⟩
  | .whl t a, st, o, c, tk => by
    obtain ⟨x, u, p, rfl, c1, c2⟩ := inv_whl c
    refine (ps_while o.po (snd t x X n sc W o.es o.x c1 tk).2 (sndSs a u o c2 tk)).imp fun De σ H ⟨hd, F0, H0, M, F, env, P, Φ, r, w, rd, hm⟩ => ?_
    simp only [wp] at w
    obtain ⟨I, ⟨m, im⟩, w⟩ := w
    refine ⟨fun m σ H => ∃ F env P, Rel X.K hd F0 H0 M F H env σ P ∧ I m env, ⟨m, F, env, P, r, im⟩, fun m σ H ⟨F, env, P, r, im⟩ => ?_⟩
    refine test1 r rd (w m env im) fun k F' H' q r' => ?_
    cases k with
    | true =>
      refine iteT ⟨fun σ H => ∃ m', m' < m ∧ ∃ F env P, Rel X.K hd F0 H0 M F H env σ P ∧ I m' env, fun σ H h => h, ?_⟩
      simp only [if_true] at q
      exact ⟨hd, F0, H0, M, F', env, P, _, r', q, ⟨fun σ F H env P r ⟨m', l, h⟩ => ⟨m', l, F, env, P, r, h⟩, rd.nx, fun σ F H env P r ⟨m', l, h⟩ => ⟨m', l, F, env, P, r, h⟩, rd.rt, rd.ex⟩, fun a m => by have := hm a m; simpa [no0] using this⟩
    | false => exact iteF (rd.nx _ _ _ _ _ r' (by simpa using q))
  | .fr tg k src a, st, o, c, tk => by
    obtain ⟨t, it, u, p, rfl, rfl, ⟨c1, xs, c2, c3⟩, c4, c5⟩ := inv_fr c
    obtain ⟨pa, _⟩ := snds src xs X n sc W o.es o.x c3 tk
    refine (ps_for o.po o.x.calm (rng_src o.x o.es c1 c2 c3 pa) (pg_snd o.own tg t c4) (sndSs a u o c5 tk) (fold_of (srcX_set c2) X.env)).imp fun De σ H ⟨hd, F0, H0, M, F, env, P, Φ, r, w, rd, hm⟩ => ?_
    simp only [wp] at w
    refine ⟨_, hd, env, r.pgood, r.penv, evs_mono G src (fun ds q => ?_) (fun z h => rd.err r h) w⟩
    refine srcW_mono (fun xs q J F' H' x fd => ?_) q
    obtain ⟨I, i0, fin, step⟩ := q
    exact turns (r.back x (Own.none (F := F'))).1 (fd (fun _ => none) hd) (fun a o h => by cases h) I i0 fin rd (fun a m => by have := hm a m; simpa [no0] using this) step
  | .frL L tg k src a, st, o, c, tk => by
    obtain ⟨t, it, u, p, rfl, ⟨c1, xs, c2, c3⟩, c4, c5⟩ := inv_frL c
    obtain ⟨pa, pe1⟩ := snds src xs X n sc W o.es o.x c3 tk
    refine (ps_for o.po o.x.calm (pi_src o.x o.es c1 c2 c3 pa pe1) (pg_snd o.own tg t c4) (sndSs a u o c5 tk) (fold_of (srcX_set c2) X.env)).imp fun De σ H ⟨hd, F0, H0, M, F, env, P, Φ, r, w, rd, hm⟩ => ?_
    simp only [wp] at w
    refine ⟨_, hd, _, r.pgoodL L, r.penvL L, evs_mono G src (fun ds q => ?_) (fun z h => rd.errL r h) w⟩
    refine srcW_mono (fun xs q J F' H' x fd => ?_) q
    obtain ⟨I, i0, fin, step⟩ := q
    exact turns (r.backL x (Own.none (F := F'))).1 fd (Same.refl _) I i0 fin rd (fun a m => by have := hm a m; simpa [no0] using this) step
  | .expr e, st, o, c, tk => by
    obtain ⟨x, p, rfl, c1, c2⟩ := inv_expr c
    refine (ps_expr (snd e x X n sc W o.es o.x c2 tk).1 (swaps_none c1 _)).imp fun De σ H ⟨hd, F0, H0, M, F, env, P, Φ, r, w, rd, hm⟩ => ?_
    simp only [wp] at w
    exact val1 r rd w fun d v F' H' T q r' t' rp => rd.nx _ _ _ _ _ r' q
  | .rse x, st, o, c, tk => by
    obtain ⟨q, p, p2, rfl, c1, c2, c3⟩ := inv_rse c
    obtain ⟨C, bmB, B, newId, initId, h1, h2, h3, h4, h5⟩ := (o.ce x c1).ex
    refine (ps_raise o.x.calm tk (pmk_own0 h1 h2 h3 h4 h5 (gl_of o.es c2) (okName_db c3).1)).imp fun De σ H ⟨hd, F0, H0, M, F, env, P, Φ, r, w, rd, hm⟩ => ?_
    simp only [wp] at w
    exact rd.ex _ _ _ _ _ ⟨x, none⟩ _ none r ⟨⟨C, h3, rfl⟩, rfl, rfl⟩ w
  | .pas, st, o, c, tk => by
    obtain ⟨p, rfl, _⟩ := inv_pas c
    refine ps_pass.imp fun De σ H ⟨hd, F0, H0, M, F, env, P, Φ, r, w, rd, hm⟩ => ?_
    simp only [wp] at w
    exact rd.nx _ _ _ _ _ r w
  | .brk, st, o, c, tk => by
    obtain ⟨p, rfl, _⟩ := inv_brk c
    refine ps_break.imp fun De σ H ⟨hd, F0, H0, M, F, env, P, Φ, r, w, rd, hm⟩ => ?_
    simp only [wp] at w
    exact rd.bk _ _ _ _ _ r w
  | .cnt, st, o, c, tk => by
    obtain ⟨p, rfl, _⟩ := inv_cnt c
    refine ps_continue.imp fun De σ H ⟨hd, F0, H0, M, F, env, P, Φ, r, w, rd, hm⟩ => ?_
    simp only [wp] at w
    exact rd.ct _ _ _ _ _ r w
theorem sndSs : ∀ (s : List S) (st : List Stmt), SOk X G n cls sc → chkSs G n X.N cls sc s st = true → Takes X W → PSs X st (TSvs X G W s)
  | [], [], o, c, tk => pss_nil.imp fun De σ H ⟨hd, F0, H0, M, F, env, P, Φ, r, w, rd, hm⟩ => rd.nx σ F H env P r (by simpa only [wps] using w)
  | [], _ :: _, o, c, tk => by simp [chkSs] at c
  | _ :: _, [], o, c, tk => by simp [chkSs] at c
  | s :: ss, t :: ts, o, c, tk => by
    simp only [chkSs, Bool.and_eq_true] at c
    refine (pss_cons (sndS s t o c.1 tk) (sndSs ss ts o c.2 tk)).imp fun De σ H ⟨hd, F0, H0, M, F, env, P, Φ, r, w, rd, hm⟩ => ?_
    simp only [wps] at w
    exact ⟨hd, F0, H0, M, F, env, P, _, r, w, ⟨fun σ F H env P r h => ⟨hd, F0, H0, M, F, env, P, Φ, r, h, rd, fun a m => by have := hm a m; simp [no0s] at this; exact ⟨this.1, this.2.2⟩⟩, rd.bk, rd.ct, rd.rt, rd.ex⟩, fun a m => by have := hm a m; simp [no0s] at this; exact ⟨this.1, this.2.1⟩⟩
end
end
end Wk
end sec_W15

section sec_W16
set_option Elab.async false
set_option linter.all false
set_option maxRecDepth 100000
set_option maxHeartbeats 8000000
namespace Wk
open PySem PySem.Spec PyProof.Rows L2
variable [Tab]
/-! ## a def's entry -/
/-- a def as what can be called -/
def CallOk (P : Program) (w : World) (K : PySem.W.Frag) (mg : Str → Option Value) (base : Heap) (k : Nat) (x : Str) (m : Nat) (C : Con) : Prop :=
  ∃ (f : Addr) (fd : FuncData) (ps : List Str) (j : Nat), j ≤ k ∧ mg x = some (.ref f) ∧ PySem.W.keepIn K (.ref f) = true ∧ Binds K fd ps [] ∧ FnOk P w K mg base (L2.CX P w) j f fd ps (spOf K mg m C)
def CallOkG (P : Program) (w : World) (K : PySem.W.Frag) (mg : Str → Option Value) (base : Heap) (k : Nat) (x : Str) (m : Nat) (C : Con) : Prop :=
  ∃ (f : Addr) (fd : FuncData) (ps : List Str) (j : Nat), j ≤ k ∧ mg x = some (.ref f) ∧ PySem.W.keepIn K (.ref f) = true ∧ Binds K fd ps [] ∧ FnOkG P w K mg base (L2.CX P w) j f fd ps (spOf K mg m C)
structure Md (P : Program) (w : World) (K : PySem.W.Frag) (mg : Str → Option Value) (base : Heap) (G : Gam) (n : Nat) (cls : List Str) : Prop where
  free : ∀ x ∈ freeNames, mg x = none
  con : ∀ x i, G.con x = some i → ∃ t, mg x = some (.int i t)
  call : ∀ f, f < n → f < G.gd → CallOk P w K mg base G.lev (G.nm f) (G.ar f) (G.call f)
  callG : ∀ f, f < n → G.gd ≤ f → CallOkG P w K mg base G.lev (G.nm f) (G.ar f) (G.call f)
  cls : ∀ y ∈ cls, ∃ (C : Addr) (bmB : List Value) (B newId initId : String), ExcBaseFacts B newId initId bmB ∧ PySem.W.excIn K C bmB newId = true ∧ mg y = some (.ref C) ∧ PySem.W.keepIn K (.ref C) = true ∧
    PySem.W.subIn K (.ref C) (.type "BaseException") = some true ∧ PySem.W.typeIn K (.ref C) = some (.type "type")
mutual
/-- what owns nothing is frozen -/
theorem Rep.frEq {K : Frag} {F H : Hp} {hd : Option Addr} : ∀ {d : D} {v : V}, Rep K F H hd d v (fun _ => False) → Wk.fr d = d
  | .non, _, _ => rfl | .bl _, _, _ => rfl | .int _, _, _ => rfl | .str _, _, _ => rfl | .hand, _, _ => rfl | .scr _, _, _ => rfl
  | .tup xs, v, h => by
    obtain ⟨a, vs, _, _, r⟩ := h
    simp only [Wk.fr, Reps.frEq r]
  | .lst false xs, v, h => by
    obtain ⟨a, vs, _, _, r⟩ := h
    simp only [Wk.fr, Reps.frEq r]
  | .lst true xs, v, h => by
    obtain ⟨a, vs, _, t, _⟩ := h
    exact t.elim
  | .dik false xs, v, h => by
    obtain ⟨a, vs, _, _, r⟩ := h
    simp only [Wk.fr, Repk.frEq r]
  | .dik true xs, v, h => by
    obtain ⟨a, vs, _, t, _⟩ := h
    exact t.elim
  | .dit false xs, v, h => by
    obtain ⟨a, vs, _, _, r⟩ := h
    simp only [Wk.fr, Rept.frEq r]
  | .dit true xs, v, h => by
    obtain ⟨a, vs, _, t, _⟩ := h
    exact t.elim
theorem Reps.frEq {K : Frag} {F H : Hp} {hd : Option Addr} : ∀ {ds : List D} {vs : List V}, Reps K F H hd ds vs (fun _ => False) → Wk.frs ds = ds
  | [], _, _ => rfl
  | d :: ds, vs, h => by
    obtain ⟨v, r, T1, T2, _, s1, s2, _, p, q⟩ := h
    simp only [Wk.frs, Rep.frEq (p.sub s1), Reps.frEq (q.sub s2)]
theorem Repk.frEq {K : Frag} {F H : Hp} {hd : Option Addr} : ∀ {ds : List (L2.Key × D)} {vs : List (L2.Key × V)}, Repk K F H hd ds vs (fun _ => False) → Wk.frk ds = ds
  | [], _, _ => rfl
  | (k, d) :: ds, vs, h => by
    obtain ⟨v, r, T1, T2, _, s1, s2, _, p, q⟩ := h
    have q' := Repk.mono (H' := H) (Same.refl F) q (fun _ _ _ z => z) s2
    simp only [Wk.frk, Rep.frEq (p.sub s1), Repk.frEq q']
theorem Rept.frEq {K : Frag} {F H : Hp} {hd : Option Addr} : ∀ {ds : List (List L2.Key × D)} {vs : List (List L2.Key × V)}, Rept K F H hd ds vs (fun _ => False) → Wk.frt ds = ds
  | [], _, _ => rfl
  | (k, d) :: ds, vs, h => by
    obtain ⟨v, r, T1, T2, _, s1, s2, _, p, q⟩ := h
    have q' := Rept.mono (H' := H) (Same.refl F) q (fun _ _ _ z => z) s2
    simp only [Wk.frt, Rep.frEq (p.sub s1), Rept.frEq q']
end
/-- what a body is told at its end -/
def endPost (Q : D → Prop) (Z : Err → Prop) : Post := { nx := fun _ => Q .non, rt := fun d _ => Q d, bk := fun _ => False, ct := fun _ => False, ex := fun e _ => Z e }
def entry (N : List Str) (ds : List D) : Env' := ds.map some ++ List.replicate (N.length - ds.length) none
section
variable {K : Frag} {mg : Str → Option Value} {hd : Option Addr} {F0 H0 F H F1 H1 : Hp} {env : Env'} {σ : L2.St} {P : Nat → ASet}
theorem Rel.toExt (g : Good K hd F0 H0) (r : Rel K hd F0 H0 (fun _ => False) F H env σ P) : Ext K hd F0 H0 F H := ⟨r.sf, r.good, fun a o n q t => r.keep a o q (fun z => z) n t, fun a o q t f => r.nof a o q (fun z => z) t f, r.hc⟩
theorem TOk.own {T : ASet} (t : TOk H0 (fun _ => False) hd F H P T) : Own F H0 H T := fun a h => by
  obtain ⟨h1, h2, h3, h4, h5⟩ := t a h
  exact ⟨h2.resolve_right fun z => z, h1, h4⟩
theorem entry_get {N : List Str} {ds : List D} {i : Nat} {d : D} (h : (entry N ds)[i]? = some (some d)) : ds[i]? = some d := by
  unfold entry at h
  by_cases hi : i < ds.length
  · rw [List.getElem?_append_left (by simpa using hi), List.getElem?_map] at h
    cases q : ds[i]? with
    | none => rw [q] at h; cases h
    | some e => rw [q] at h; cases h; rfl
  · rw [List.getElem?_append_right (by simpa using hi)] at h
    rw [List.getElem?_replicate] at h
    split at h <;> cases h
theorem Rel.entry {N : List Str} {ds : List D} {vs : List V} (g : Good K hd F H) (r : Reps K F H hd ds vs fun _ => False) : Rel K hd F H (fun _ => False) F H (Wk.entry N ds) (L2.start N vs) (fun _ _ => False) where
  good := g
  len := by simp [Wk.entry, L2.start, r.length]
  get := fun i d e => by
    have e' := entry_get e
    obtain ⟨v, q, p⟩ := r.get e'
    refine ⟨v, ?_, p⟩
    have hi : i < vs.length := by
      rcases Nat.lt_or_ge i vs.length with h | h
      · exact h
      · rw [List.getElem?_eq_none h] at q; cases q
    show (vs.map some ++ _)[i]? = _
    rw [List.getElem?_append_left (by simpa using hi), List.getElem?_map, q]
    rfl
  own := fun i a h => h.elim
  apart := fun i j a n h => h.elim
  sf := Same.refl F
  keep := fun a o q _ _ _ => q
  nof := fun a o q _ _ f => f
  hc := fun a c r _ e => ⟨r, e⟩
  pin := fun a m => m.elim
end
theorem sok_of {P : Program} {w : World} {K : PySem.W.Frag} {mg : Str → Option Value} {base : Heap} {G : Gam} {n : NB} {cls : List Str} (md : Md P w K mg base G n.1 cls) {N : List Str} {qual : Str} {scope : Scope} {f : Addr} {cdv : Value} {A : Around} {outer : List Env} {s : Shared} {H : Hp} {E : XK}
    (nd : N.Nodup) (kf : scope.kind = .function) (hr : Room G.lev (A.deeper (PyProof.Rows.envOfC qual scope s.heap.objs.size f cdv))) (hl : n.2.1 = true → LamOk (cxOf (L2.CX P w) P w K mg base N qual scope f cdv A outer s H E) G)
    (hgu : n.2.2 = true → (A.deeper (PyProof.Rows.envOfC qual scope s.heap.objs.size f cdv)).guards = some []) :
    SOk (cxOf (L2.CX P w) P w K mg base N qual scope f cdv A outer s H E) G n cls scope where
  es := rfl
  kf := kf
  own := ⟨nd, rfl, fun x h => by
    refine ⟨?_, .inl rfl⟩
    unfold locB at h
    show scope.names.lookup x = some .local ∨ scope.names.lookup x = some .cell
    split at h
    · rename_i q
      exact .inl q
    · rename_i q
      exact .inr q
    · cases h⟩
  x := ⟨nd, rfl, by have := hr.un; show (A.deeper _).units + 100 < cLine; omega, md.free, md.con, fun g hg hd => by
    obtain ⟨a, fd, ps, j, hj, h1, h2, h3, h4⟩ := md.call g hg hd
    exact ⟨a, fd, ps, j, h1, h2, h3, hj, h4⟩, fun g hg hd => by
    obtain ⟨a, fd, ps, j, hj, h1, h2, h3, h4⟩ := md.callG g hg hd
    exact ⟨a, fd, ps, j, h1, h2, h3, hj, h4⟩, hgu, hr, hl⟩
  ce := fun y hy => by
    obtain ⟨C, bmB, B, newId, initId, h1, h2, h3, h4, h5, h6⟩ := md.cls y hy
    exact ⟨C, bmB, B, newId, initId, h1, h2, h3, h4, raises_own h5 h6⟩
  po := passes_of rfl
/-- a body's end as the contract says -/
theorem body_sem {K : PySem.W.Frag} {mg : Str → Option Value} {G : Gam} {N : List Str} {ss : List Wk.S} {C : Con} {vs : List V} {H : Hp} {Q : VK} {E : XK} {k : Nat} (sem : ∀ ds Q Z, ds.length = k → Wk.frs ds = ds → C ds Q Z → wps G ss (entry N ds) (endPost Q Z)) (h : spOf K mg k C vs H Q E) :
    ∃ hd F0 H0 M F env P Φ, Rel K hd F0 H0 M F H env (L2.start N vs) P ∧ wps G ss env Φ ∧ Rd K mg (fun c d _ H => E c d H) hd F0 H0 M Φ { nx := fun _ H' => Q .non H', rt := Q } ∧ ∀ a, M a → G.pin = true ∧ no0s ss = true := by
  obtain ⟨F, hd, ds, g, r, hl, c⟩ := h
  obtain ⟨Q', Z', c, i1, i2⟩ := c
  refine ⟨hd, F, H, fun _ => False, F, _, _, _, Rel.entry g r, sem ds Q' Z' hl (Reps.frEq r) c, ⟨fun σ F H env P r h => ?_, fun σ F H env P r h => h.elim, fun σ F H env P r h => h.elim, fun σ F H env P d v T r rp t h => ?_, fun σ F H env P e c dx r er h => ?_⟩, fun a m => m.elim⟩
  · exact i1 _ h .non F H (fun _ => False) (r.toExt g) Own.none rfl
  · exact i1 _ h v F H T (r.toExt g) t.own rp
  · exact i2 _ h c dx F H (r.toExt g) er
theorem fn_ok {P : Program} {w : World} {K : PySem.W.Frag} {mg : Str → Option Value} {base : Heap} {G : Gam} {n : Nat} {cls : List Str} (md : Md P w K mg base G n cls) {N ps : List Str} {x qual : Str} {params : Arguments} {body : List Stmt} {scope : Scope} {kws : List (Str × V)} {f : Addr} {fd : FuncData}
    (F : FunD K x qual params body scope [] kws f fd) (S : FnScope N ps scope) (ss : List Wk.S) (hc : chkSs G (n, false, false) N cls scope ss body = true) {C : Con}
    (sem : ∀ ds Q Z, ds.length = ps.length → Wk.frs ds = ds → C ds Q Z → wps G ss (entry N ds) (endPost Q Z)) : FnOk P w K mg base (L2.CX P w) (G.lev + 1) f fd ps (spOf K mg ps.length C) := by
  refine F.ok S (fun vs H Q E ⟨F, hd, ds, g, r, hl, c⟩ => by rw [r.length, hl]) (fun cdv A outer s H vs Q E hr h => ?_)
  have so := sok_of (n := (n, false, false)) md (N := N) (qual := qual) (scope := scope) (f := f) (cdv := cdv) (A := A) (outer := outer) (s := s) (H := H) (E := E) S.nd S.kind hr (fun h => by cases h) (fun h => by cases h)
  exact ⟨_, sndSs ss body so hc (takes_of rfl rfl rfl rfl), body_sem sem h⟩
/-- a def that makes lambdas: its code object stands at c, its table at T -/
theorem fn_okL {P : Program} {w : World} {K : PySem.W.Frag} {mg : Str → Option Value} {base : Heap} {G : Gam} {n : Nat} {cls : List Str} (md : Md P w K mg base G n cls) {N ps : List Str} {x qual : Str} {params : Arguments} {body : List Stmt} {scope : Scope} {f c Tb : Addr} {oc dV kV doc pm cdv ct : Value} {an od : Option Addr} {osl : Array (Option Value)}
    (lk : K.lookup f = some ⟨oc, od, .func (PySem.W.fnOf x qual params body scope dV kV doc pm an cdv ct), osl⟩) (hcd : PySem.W.codeIn K cdv qual = true) (S : FnScope N ps scope) (ss : List Wk.S) (hc : chkSs G (n, true, false) N cls scope ss body = true)
    (hcv : cdv = .ref c) (TB : LamX.TabB base mg c Tb) (hmT : (Tb, (qual ++ ".<locals>.") ++ "<lambda>") ∈ Tab.T) (hu : ∀ p ∈ Tab.T, p.1 = Tb → p.2 = (qual ++ ".<locals>.") ++ "<lambda>")
    (said : ∀ X : Cx, X.K = K → X.mg = mg → ∀ f, f < G.sn → SaidOk X (G.snm f) (G.said f)) {C : Con}
    (sem : ∀ ds Q Z, ds.length = ps.length → Wk.frs ds = ds → C ds Q Z → wps G ss (entry N ds) (endPost Q Z)) : FnOk P w K mg base (L2.CX P w) (G.lev + 3) f (PySem.W.fnOf x qual params body scope dV kV doc pm an cdv ct) ps (spOf K mg ps.length C) := by
  have hlen : ∀ (vs : List V) (H : Hp) (Q : VK) (E : XK), spOf K mg ps.length C vs H Q E → vs.length = ps.length := fun vs H Q E ⟨F, hd, ds, g, r, hl, c⟩ => by rw [r.length, hl]
  refine ⟨hlen, fun A outer s H args us vs Q E hr e0 hb r h => ?_⟩
  refine LamX.run_ofS (N := N) (k := G.lev + 2) lk hcd S hr e0 hb r (hlen _ _ _ _ h) fun hr' => ?_
  have so := sok_of (n := (n, true, false)) md (N := N) (qual := qual) (scope := scope) (f := f) (cdv := cdv) (A := A) (outer := outer) (s := s) (H := H) (E := E) S.nd S.kind (hr'.mono (by omega)) (fun _ => ⟨hr', ⟨c, Tb, TB, hcv, hmT, hu⟩, fun g hg => said _ rfl rfl g hg⟩) (fun h => by cases h)
  exact ⟨_, sndSs ss body so hc (takes_of rfl rfl rfl rfl), body_sem sem h⟩
/-- a def that may show things: it is asked where nothing is being shown -/
theorem fn_okG {P : Program} {w : World} {K : PySem.W.Frag} {mg : Str → Option Value} {base : Heap} {G : Gam} {n : Nat} {cls : List Str} (md : Md P w K mg base G n cls) {N ps : List Str} {x qual : Str} {params : Arguments} {body : List Stmt} {scope : Scope} {f : Addr} {oc dV kV doc pm cdv ct : Value} {an od : Option Addr} {osl : Array (Option Value)}
    (lk : K.lookup f = some ⟨oc, od, .func (PySem.W.fnOf x qual params body scope dV kV doc pm an cdv ct), osl⟩) (hcd : PySem.W.codeIn K cdv qual = true) (S : FnScope N ps scope) (ss : List Wk.S) (hc : chkSs G (n, false, true) N cls scope ss body = true) {C : Con}
    (sem : ∀ ds Q Z, ds.length = ps.length → Wk.frs ds = ds → C ds Q Z → wps G ss (entry N ds) (endPost Q Z)) : FnOkG P w K mg base (L2.CX P w) (G.lev + 1) f (PySem.W.fnOf x qual params body scope dV kV doc pm an cdv ct) ps (spOf K mg ps.length C) := by
  have hlen : ∀ (vs : List V) (H : Hp) (Q : VK) (E : XK), spOf K mg ps.length C vs H Q E → vs.length = ps.length := fun vs H Q E ⟨F, hd, ds, g, r, hl, c⟩ => by rw [r.length, hl]
  refine ⟨hlen, fun A outer s H args us vs Q E hgd hr e0 hb r h => ?_⟩
  refine LamX.run_ofS (N := N) (k := G.lev) lk hcd S hr e0 hb r (hlen _ _ _ _ h) fun hr' => ?_
  have so := sok_of (n := (n, false, true)) md (N := N) (qual := qual) (scope := scope) (f := f) (cdv := cdv) (A := A) (outer := outer) (s := s) (H := H) (E := E) S.nd S.kind hr' (fun h => by cases h) (fun _ => hgd)
  exact ⟨_, sndSs ss body so hc (takes_of rfl rfl rfl rfl), body_sem sem h⟩
/-- one that makes lambdas and may show things -/
theorem fn_okGL {P : Program} {w : World} {K : PySem.W.Frag} {mg : Str → Option Value} {base : Heap} {G : Gam} {n : Nat} {cls : List Str} (md : Md P w K mg base G n cls) {N ps : List Str} {x qual : Str} {params : Arguments} {body : List Stmt} {scope : Scope} {f c Tb : Addr} {oc dV kV doc pm cdv ct : Value} {an od : Option Addr} {osl : Array (Option Value)}
    (lk : K.lookup f = some ⟨oc, od, .func (PySem.W.fnOf x qual params body scope dV kV doc pm an cdv ct), osl⟩) (hcd : PySem.W.codeIn K cdv qual = true) (S : FnScope N ps scope) (ss : List Wk.S) (hc : chkSs G (n, true, true) N cls scope ss body = true)
    (hcv : cdv = .ref c) (TB : LamX.TabB base mg c Tb) (hmT : (Tb, (qual ++ ".<locals>.") ++ "<lambda>") ∈ Tab.T) (hu : ∀ p ∈ Tab.T, p.1 = Tb → p.2 = (qual ++ ".<locals>.") ++ "<lambda>")
    (said : ∀ X : Cx, X.K = K → X.mg = mg → ∀ f, f < G.sn → SaidOk X (G.snm f) (G.said f)) {C : Con}
    (sem : ∀ ds Q Z, ds.length = ps.length → Wk.frs ds = ds → C ds Q Z → wps G ss (entry N ds) (endPost Q Z)) : FnOkG P w K mg base (L2.CX P w) (G.lev + 3) f (PySem.W.fnOf x qual params body scope dV kV doc pm an cdv ct) ps (spOf K mg ps.length C) := by
  have hlen : ∀ (vs : List V) (H : Hp) (Q : VK) (E : XK), spOf K mg ps.length C vs H Q E → vs.length = ps.length := fun vs H Q E ⟨F, hd, ds, g, r, hl, c⟩ => by rw [r.length, hl]
  refine ⟨hlen, fun A outer s H args us vs Q E hgd hr e0 hb r h => ?_⟩
  refine LamX.run_ofS (N := N) (k := G.lev + 2) lk hcd S hr e0 hb r (hlen _ _ _ _ h) fun hr' => ?_
  have so := sok_of (n := (n, true, true)) md (N := N) (qual := qual) (scope := scope) (f := f) (cdv := cdv) (A := A) (outer := outer) (s := s) (H := H) (E := E) S.nd S.kind (hr'.mono (by omega)) (fun _ => ⟨hr', ⟨c, Tb, TB, hcv, hmT, hu⟩, fun g hg => said _ rfl rfl g hg⟩) (fun _ => hgd)
  exact ⟨_, sndSs ss body so hc (takes_of rfl rfl rfl rfl), body_sem sem h⟩
end Wk
end sec_W16

section sec_W17
set_option Elab.async false
set_option linter.all false
set_option maxRecDepth 100000
set_option maxHeartbeats 8000000
namespace Wk
open PySem PySem.Spec PyProof.Rows L2
/-! ## the head's facts, with the tables of the defs that make lambdas -/
open PySem.W in
def tbB (g : Addr → Option Obj) (P : Addr) : Bool := match g P with
  | some ⟨.none, none, .fields ps, sl⟩ => decide (ps = #[]) && decide (sl = #[])
  | _ => false
theorem tbB_ok {g : Addr → Option Obj} {P : Addr} (h : tbB g P = true) : g P = some { cls := .none, data := .fields #[] } := by
  unfold tbB at h
  split at h
  · rename_i ps sl q
    simp only [Bool.and_eq_true, decide_eq_true_eq] at h
    obtain ⟨rfl, rfl⟩ := h
    exact q
  · cases h
def tabsK (K : PySem.W.Frag) (lm : List Str) : List (Addr × Addr) := lm.filterMap (PySem.W.tabIn K)
def asT (g : Addr → Option Obj) (n : Nat) (lm : List Str) : List Addr := (He.asD g n).filter fun a => !((tabsK (He.frG g (He.asD g n)) lm).map (·.2)).contains a
/-- what is looked at: K the part of the heap -/
def obsK (fa : List He.Fa) (fn : List He.DefD) (lm : List Str) (ex : PySem.W.Frag → Bool) (K : PySem.W.Frag) (g : Addr → Option Obj) : He.AlD :=
  ((He.obsD fa fn K).1 && (ex K && (((lm.all fun x => (PySem.W.tabIn K x).isSome) && ((tabsK K lm).all fun p => tbB g p.2 && (PySem.W.codeHdIn K p.1 p.2 && (K.lookup p.2).isNone))) && decide (((tabsK K lm).map (·.2)).Nodup))), (He.obsD fa fn K).2)
def obsTG (n : Nat) (fa : List He.Fa) (fn : List He.DefD) (lm : List Str) (ex : PySem.W.Frag → Bool) (g : Addr → Option Obj) : He.AlD := obsK fa fn lm ex (He.frG g (asT g n lm)) g
structure SaysT (fa : List He.Fa) (fn : List He.DefD) (lm : List Str) (ex : PySem.W.Frag → Bool) (K : PySem.W.Frag) (h : Heap) : Prop where
  d : He.SaysD fa fn K
  ex : ex K = true
  some_ : ∀ x ∈ lm, ∃ p, PySem.W.tabIn K x = some p
  tab : ∀ p ∈ tabsK K lm, h.get? p.2 = some { cls := .none, data := .fields #[] }
  code : ∀ p ∈ tabsK K lm, PySem.W.codeHdIn K p.1 p.2 = true
  no : ∀ p ∈ tabsK K lm, K.lookup p.2 = none
  nd : ((tabsK K lm).map (·.2)).Nodup
theorem says_of {fa : List He.Fa} {fn : List He.DefD} {lm : List Str} {ex : PySem.W.Frag → Bool} {K : PySem.W.Frag} {h : Heap} (e : obsK fa fn lm ex K h.get? = He.valD fn) : SaysT fa fn lm ex K h := by
  have e1 := congrArg (fun z : He.AlD => z.1) e
  have e2 := congrArg (fun z : He.AlD => z.2) e
  simp only [obsK, He.valD, Bool.and_eq_true, List.all_eq_true, decide_eq_true_eq] at e1 e2
  obtain ⟨h1, h0, ⟨h2, h3⟩, h4⟩ := e1
  refine ⟨?_, h0, fun x hx => Option.isSome_iff_exists.mp (h2 x hx), fun p hp => tbB_ok (h3 p hp).1, fun p hp => (h3 p hp).2.1, fun p hp => by simpa using (h3 p hp).2.2, h4⟩
  show He.obsD fa fn K = He.valD fn
  exact Prod.ext h1 e2
def hookT (n : Nat) (fa : List He.Fa) (fn : List He.DefD) (lm : List Str) (ex : PySem.W.Frag → Bool) : PySem.W.Hook where
  α := He.AlD
  obs := fun s => obsTG n fa fn lm ex s.heap.get?
  val := fun _ => He.valD fn
  says := fun _ h => ∃ K : PySem.W.Frag, K.In h ∧ SaysT fa fn lm ex K h
  of := fun _ _ e => ⟨_, He.frG_in, says_of e⟩
  keeps := fun _ _ _ ⟨K, hK, c⟩ k => ⟨K, PySem.W.Frag.In.keeps hK k, ⟨c.d, c.ex, c.some_, fun p hp => k _ _ (c.tab p hp), c.code, c.no, c.nd⟩⟩
theorem obsTG_eq {n : Nat} {fa : List He.Fa} {fn : List He.DefD} {lm : List Str} {ex : PySem.W.Frag → Bool} {g : Addr → Option Obj} {s : Shared} (h : ∀ a, g a = s.heap.get? a) : obsTG n fa fn lm ex g = (hookT n fa fn lm ex).obs s := by
  have e : g = s.heap.get? := funext h
  rw [e]
  rfl
theorem SaysT.hd {fa : List He.Fa} {fn : List He.DefD} {lm : List Str} {ex : PySem.W.Frag → Bool} {K : PySem.W.Frag} {h : Heap} (c : SaysT fa fn lm ex K h) (X : K.In h) : ∀ p ∈ tabsK K lm, PySem.W.CodeHd h p.1 p.2 := fun p hp => PySem.W.codeHd_of_K X (c.code p hp)
/-- the tables by names -/
def tabT (K : PySem.W.Frag) (lm : List Str) : List (Addr × Str) := lm.filterMap fun x => (PySem.W.tabIn K x).map fun p => (p.2, (x ++ ".<locals>.") ++ "<lambda>")
theorem tabT_mem {K : PySem.W.Frag} {lm : List Str} {x : Str} {p : Addr × Addr} (hx : x ∈ lm) (h : PySem.W.tabIn K x = some p) : (p.2, (x ++ ".<locals>.") ++ "<lambda>") ∈ tabT K lm :=
  List.mem_filterMap.mpr ⟨x, hx, by rw [h]; rfl⟩
theorem tabsK_mem {K : PySem.W.Frag} {lm : List Str} {x : Str} {p : Addr × Addr} (hx : x ∈ lm) (h : PySem.W.tabIn K x = some p) : p ∈ tabsK K lm := List.mem_filterMap.mpr ⟨x, hx, h⟩
theorem nodup_fst {K : PySem.W.Frag} : ∀ {lm : List Str}, ((tabsK K lm).map (·.2)).Nodup → ∀ {x y : Str} {p q : Addr × Addr}, x ∈ lm → y ∈ lm → PySem.W.tabIn K x = some p → PySem.W.tabIn K y = some q → p.2 = q.2 → x = y
  | [], _, x, y, p, q, hx, _, _, _, _ => nomatch hx
  | z :: zs, nd, x, y, p, q, hx, hy, h1, h2, e => by
    have tl : ((tabsK K zs).map (·.2)).Nodup := by
      unfold tabsK at nd ⊢
      rw [List.filterMap_cons] at nd
      split at nd
      · exact nd
      · rw [List.map_cons] at nd
        exact (List.nodup_cons.mp nd).2
    have ne : ∀ {u v : Str} {p q : Addr × Addr}, u = z → v ∈ zs → PySem.W.tabIn K u = some p → PySem.W.tabIn K v = some q → p.2 ≠ q.2 := fun {u v p q} hu hv h1 h2 e => by
      subst hu
      unfold tabsK at nd
      rw [List.filterMap_cons, h1, List.map_cons] at nd
      exact (List.nodup_cons.mp nd).1 (List.mem_map.mpr ⟨q, List.mem_filterMap.mpr ⟨v, hv, h2⟩, e.symm⟩)
    rcases List.mem_cons.mp hx with a | a <;> rcases List.mem_cons.mp hy with b | b
    · rw [a, b]
    · exact absurd e (ne a b h1 h2)
    · exact absurd e.symm (ne b a h2 h1)
    · exact nodup_fst tl a b h1 h2 e
theorem tabT_one {K : PySem.W.Frag} {lm : List Str} (nd : ((tabsK K lm).map (·.2)).Nodup) {x : Str} {p : Addr × Addr} (hx : x ∈ lm) (h : PySem.W.tabIn K x = some p) : ∀ q ∈ tabT K lm, q.1 = p.2 → q.2 = (x ++ ".<locals>.") ++ "<lambda>" := fun q hq e => by
  obtain ⟨y, hy, hq⟩ := List.mem_filterMap.mp hq
  obtain ⟨p', h', rfl⟩ := Option.map_eq_some_iff.mp hq
  have := nodup_fst nd hx hy h h' e.symm
  rw [this]
theorem tabs_tbl {K : PySem.W.Frag} {lm : List Str} {H : Hp} (h : ∀ p ∈ tabsK K lm, H p.2 = some (.tbl #[])) : LamX.Tabs (tabT K lm) H := fun q hq => by
  obtain ⟨y, hy, hq⟩ := List.mem_filterMap.mp hq
  obtain ⟨p', h', rfl⟩ := Option.map_eq_some_iff.mp hq
  exact LamX.TabS.nil (h p' (tabsK_mem hy h'))
/-- a def's code object by the table's name -/
theorem code_of {K : PySem.W.Frag} {x qual : Str} {params : Arguments} {body : List Stmt} {scope : Scope} {dvs : List V} {kws : List (Str × V)} {fd : FuncData} {p : Addr × Addr} (F : FunD K x qual params body scope dvs kws (He.ga K x) fd) (h : PySem.W.tabIn K x = some p) :
    ∃ oc od dV kV doc pm an ct osl, fd = PySem.W.fnOf x qual params body scope dV kV doc pm an (.ref p.1) ct ∧ K.lookup (He.ga K x) = some ⟨oc, od, .func fd, osl⟩ ∧ PySem.W.codeIn K (.ref p.1) qual = true := by
  obtain ⟨oc, od, dV, kV, doc, pm, an, cdv, ct, osl, rfl, h1, h2, _⟩ := F.ex
  have e : cdv = .ref p.1 := by
    unfold PySem.W.tabIn at h
    unfold He.ga at h1
    split at h
    · rename_i f hf
      rw [hf] at h1
      simp only at h1
      rw [h1] at h
      simp only [PySem.W.fnOf] at h
      split at h
      · rename_i c
        split at h
        · split at h
          · cases h; rfl
          · cases h
        · cases h
      · cases h
    · cases h
  subst e
  exact ⟨oc, od, dV, kV, doc, pm, an, ct, osl, rfl, h1, h2⟩
/-- the end of a law -/
theorem walk_ofX {l : PySem.W.OpenLaw} {n k : Nat} {q : Program} {loose : List Str} {XP : (Str → Option Value) → Heap → Prop} {YP : World → Heap → Prop} {d : DefRec} {CX : World → CXT} {x : Str}
    (hn : l.most = some n) (hn2 : n ≤ sizeLine) (hdf : d.params.defaults = []) (hr : Room k callerA)
    (F : ∀ (w : World) (mg : Str → Option Value) (fa : Addr) (h : Heap), YP w h → h.Ns mainGlobals mg → mg d.name = some (.ref fa) → ∃ K : PySem.W.Frag, K.In h ∧ LamX.LawAtS l w K (CX w) k n x mg fa h)
    (hCX : ∀ (w : World) (H : Hp) (s : Shared) (e : Value) (s' : Shared), CX w [] H s (fun _ _ _ => False) e s' → False) : PySem.W.WalkO q loose XP YP l.row.toRowW d [] (fun f vs => PySem.call f vs) := by
  refine Att.attach_callB hn hdf fun w s₀ s₁ mg mb fa o pm cd doc a vs ns G Y ho hd hcd hmg hobj hints hlen hbits hg => ?_
  obtain ⟨K, KX, fd, cs, sp, hT, nT, C, hb, hsp, hF⟩ := F w mg fa _ Y G.T.g hmg
  exact LamX.law_callTs KX G.T.g G.T.b G.T.builtins G.T.nolimit hg hT nT C G.T.bmain hobj hints (Nat.le_trans hlen hn2) hr hF hb (fun H hH hS => hsp H a ns hlen hbits hH hS)
    fun H e s' => hCX w H s₁ e s'
end Wk
end sec_W17

section sec_W18
set_option Elab.async false
set_option linter.all false
set_option maxRecDepth 100000
set_option maxHeartbeats 8000000
namespace Wk
open PySem PySem.Spec PyProof.Rows L2
variable [Tab]
/-! ## the hand that draws -/
/-- the hand's list -/
def hndD (o : Bool) (cs : List Int) (i b m n : Int) : D := .lst true [.lst o (cs.map D.int), .int i, .int b, .int m, .int n]
def hndOk (cs : List Int) (i b m n : Int) : Prop := (∀ x ∈ cs, 0 ≤ x) ∧ 0 ≤ i ∧ 0 ≤ b ∧ 0 ≤ m ∧ 0 ≤ n
/-- some whole number below -/
def cDraw : Con := fun ds Q _ => ∃ n : Int, ds = [.hand, .int n] ∧ 0 < n ∧ n < 1073741824 ∧ ∀ r : Int, 0 ≤ r → r < n → Q (.int r)
def drawPost (many : Int) : Post := { nx := fun _ => False, rt := fun d env => ∃ r : Int, d = .int r ∧ 0 ≤ r ∧ r < many ∧ ∃ cs i b m n, env[0]? = some (some (hndD false cs i b m n)) ∧ hndOk cs i b m n, bk := fun _ => False, ct := fun _ => False, ex := fun _ _ => False }
theorem ints_reps {K : Frag} {F H : Hp} {hd : Option Addr} {ns : List Int} {T : ASet} : Reps K F H hd (ns.map D.int) (ns.map V.int) T := (Reps.ints ns).mpr rfl
theorem hnd_reps {K : Frag} {F H : Hp} {hd : Option Addr} {o : Bool} {cs : List Int} {i b m n : Int} {vs : List V} {T : ASet} (h : Reps K F H hd [.lst o (cs.map D.int), .int i, .int b, .int m, .int n] vs T) :
    ∃ c, vs = [.ref c, .int i, .int b, .int m, .int n] ∧ Rep K F H hd (.lst o (cs.map D.int)) (.ref c) T := by
  obtain ⟨v, r, T1, T2, rfl, s1, s2, nn, p, q⟩ := h
  obtain ⟨v2, r2, _, _, rfl, _, _, _, p2, q⟩ := q
  obtain ⟨v3, r3, _, _, rfl, _, _, _, p3, q⟩ := q
  obtain ⟨v4, r4, _, _, rfl, _, _, _, p4, q⟩ := q
  obtain ⟨v5, r5, _, _, rfl, _, _, _, p5, q⟩ := q
  cases q
  have e2 : v2 = .int i := p2
  have e3 : v3 = .int b := p3
  have e4 : v4 = .int m := p4
  have e5 : v5 = .int n := p5
  subst e2 e3 e4 e5
  cases o with
  | false =>
    obtain ⟨c, us, rfl, h1, h2⟩ := p
    exact ⟨c, rfl, c, us, rfl, h1, h2.sub s1⟩
  | true =>
    obtain ⟨c, us, rfl, h1, h2, h3⟩ := p
    exact ⟨c, rfl, c, us, rfl, s1 c h1, h2, h3.sub fun b z => ⟨s1 b z.1, z.2⟩⟩
theorem fn_draw {P : Program} {w : World} {K : PySem.W.Frag} {mg : Str → Option Value} {base : Heap} {G : Gam} {cls : List Str} (md : Md P w K mg base G 0 cls) {N : List Str} {x qual pa pb : Str} {params : Arguments} {body : List Stmt} {scope : Scope} {kws : List (Str × V)} {f : Addr} {fd : FuncData}
    (F : FunD K x qual params body scope [] kws f fd) (S : FnScope N [pa, pb] scope) (ss : List Wk.S) (hc : chkSs G (0, false, false) N cls scope ss body = true) (hp : G.pin = true) (h0 : no0s ss = true)
    (sem : ∀ (cs : List Int) (i b m n many : Int), hndOk cs i b m n → 0 < many → many < 1073741824 → wps G ss (entry N [hndD false cs i b m n, .int many]) (drawPost many)) : FnOk P w K mg base (L2.CX P w) (G.lev + 1) f fd [pa, pb] (spOf K mg 2 cDraw) := by
  refine F.ok S (fun vs H Q E ⟨F, hd, ds, g, r, hl, c⟩ => by rw [r.length, hl]; rfl) (fun cdv A outer s H vs Q E hr ⟨F, hd, ds, g, r, hl, c⟩ => ?_)
  have so := sok_of (n := (0, false, false)) md (N := N) (qual := qual) (scope := scope) (f := f) (cdv := cdv) (A := A) (outer := outer) (s := s) (H := H) (E := E) S.nd S.kind hr (fun h => by cases h) (fun h => by cases h)
  refine ⟨_, sndSs ss body so hc (takes_of rfl rfl rfl rfl), ?_⟩
  obtain ⟨Q', Z', ⟨many, rfl, hm1, hm2, hq⟩, i1, i2⟩ := c
  obtain ⟨v, u, _, _, rfl, _, _, _, r1, r2⟩ := r.inv2
  obtain ⟨a, rfl, rfl⟩ := r1
  have r2 : u = V.int many := r2
  subst r2
  obtain ⟨fa, c, cs, i, b, m, n, ha, fc, hcs, hb, hm, hn⟩ := g.hand a rfl
  have rel : Rel K none F H (fun x => x = a) F H (entry N [hndD false cs i b m n, .int many]) (L2.start N [.ref a, .int many]) (fun j x => j = 0 ∧ x = a) := {
    good := ⟨g.sub, (fun _ e => nomatch e), g.tab, g.fnt⟩
    len := by simp [entry, L2.start]
    get := fun j d e => by
      have e' := entry_get e
      match j, e' with
      | 0, e' =>
        cases e'
        refine ⟨_, rfl, a, _, rfl, ⟨rfl, rfl⟩, ha, .ref c, _, fun _ => False, fun _ => False, rfl, fun _ t => t.elim, fun _ t => t.elim, fun _ t => t.elim, ⟨c, _, rfl, fc, ints_reps⟩, ?_⟩
        exact ints_reps (ns := [i, b, m, n])
      | 1, e' =>
        cases e'
        exact ⟨_, rfl, rfl⟩
      | j + 2, e' => simp at e'
    own := fun j x ⟨_, hx⟩ => by
      subst hx
      exact ⟨fa, .inr rfl, (fun e => nomatch e), _, ha, rfl⟩
    apart := fun j k x n h h' => n (h.1.trans h'.1.symm)
    sf := Same.refl F
    keep := fun x o q _ _ _ => q
    nof := fun x o q _ _ f => f
    hc := fun x c r e => by cases e
    pin := fun x hx => by
      subst hx
      exact ⟨(fun e => nomatch e), rfl, fun c r q => ⟨r, q⟩⟩ }
  refine ⟨none, F, H, _, F, _, _, _, rel, sem cs i b m n many ⟨hcs, Int.natCast_nonneg i, hb, hm, hn⟩ hm1 hm2, ⟨fun σ F H env P r h => h.elim, fun σ F H env P r h => h.elim, fun σ F H env P r h => h.elim, fun σ F2 H2 env P d v T r rp t h => ?_, fun σ F H env P e c dx r er h => h.elim⟩, fun _ _ => ⟨hp, h0⟩⟩
  obtain ⟨q, rfl, q1, q2, cs', i', b', m', n', e', hcs', hi', hb', hm', hn'⟩ := h
  obtain ⟨w0, e1, a1, vs1, rfl, o1, h1, rs1⟩ := r.get 0 _ e'
  obtain ⟨_, e2, e3⟩ := r.pin a rfl
  rw [e1] at e2
  cases e2
  obtain ⟨c1, rfl, rc⟩ := hnd_reps rs1
  obtain ⟨c2, us2, ec, fc2, rs2⟩ := rc
  cases ec
  have us : us2 = cs'.map V.int := (Reps.ints cs').mp rs2
  subst us
  have f2a : F2 a = none := (r.own 0 a o1).1
  refine i1 _ (hq q q1 q2) v F2 H2 (fun _ => False) ⟨r.sf, ⟨r.good.sub, fun y ey => ?_, r.good.tab, r.good.fnt⟩, fun y o ny hy nt => r.keep y o hy (fun z => ny (by rw [z])) (fun z => by cases z) nt, fun y o hy nt fy => ?_, fun y cc rr ey hy => ?_⟩ Own.none rp
  · cases ey
    exact ⟨f2a, c1, cs', i'.toNat, b', m', n', by rw [Int.toNat_of_nonneg hi']; exact h1, fc2, hcs', hb', hm', hn'⟩
  · by_cases z : y = a
    · rw [z]; exact f2a
    · exact r.nof y o hy z nt fy
  · cases ey
    exact e3 cc rr hy
/-! ## the law -/
def spLaw (K : PySem.W.Frag) : Sp := fun vs H Q _ => ∃ (a : Addr) (ns : List Int), vs = [.ref a] ∧ SqL K H a (ns.map V.int) ∧ ns.length ≤ 63 ∧ LamX.Tabs Tab.T H ∧ ∀ H', Q (.bl true) H'
def cHand : Con := fun ds Q _ => ∃ ns : List Int, ds = [.scr ns] ∧ ns.length ≤ 63 ∧ ∀ (o : Bool) (cs : List Int) (i b m n : Int), hndOk cs i b m n → Q (hndD o cs i b m n)
def lawPost : Post := { nx := fun _ => False, rt := fun d _ => d = .bl true, bk := fun _ => False, ct := fun _ => False, ex := fun _ _ => False }
theorem rel_hand {o0 : Bool} {K : Frag} {F0 H0 F H : Hp} {σ : L2.St} {P : Nat → ASet} {N : List Str} {ns cs : List Int} {i b m n : Int} (hN : 2 ≤ N.length) (r : Rel K none F0 H0 (fun _ => False) F H (entry N [.scr ns, hndD o0 cs i b m n]) σ P) (ok : hndOk cs i b m n) :
    ∃ a F2, Rel K (some a) F2 H (fun _ => False) F2 H (entry N [.scr ns, .hand]) σ (fun _ _ => False) := by
  obtain ⟨v, e1, a, vs, rfl, o1, h1, rs⟩ := r.get 1 (hndD o0 cs i b m n) rfl
  obtain ⟨c, rfl, rc⟩ := hnd_reps rs
  have fa : F a = none := (r.own 1 a o1).1
  obtain ⟨nac, hc, s2⟩ : a ≠ c ∧ H c = some (.lst (cs.map V.int)) ∧ Same F (upd F c (.lst (cs.map V.int))) := by
    cases o0 with
    | true =>
      obtain ⟨c2, us2, ec, tc, hc, rs2⟩ := rc
      cases ec
      have us : us2 = cs.map V.int := (Reps.ints cs).mp rs2
      subst us
      refine ⟨fun z => tc.2 z.symm, hc, fun x o q => ?_⟩
      have : x ≠ c := fun z => by
        subst z
        rw [(r.own 1 x tc.1).1] at q; cases q
      rw [upd_ne this]; exact q
    | false =>
      obtain ⟨c2, us2, ec, fc, rs2⟩ := rc
      cases ec
      have us : us2 = cs.map V.int := (Reps.ints cs).mp rs2
      subst us
      refine ⟨(fun z => by rw [z, fc] at fa; cases fa), r.good.sub c _ fc, fun x o q => ?_⟩
      by_cases z : x = c
      · subst z; rw [upd_same]; rw [fc] at q; exact q
      · rw [upd_ne z]; exact q
  refine ⟨a, upd F c (.lst (cs.map V.int)), ⟨⟨fun x o q => ?_, fun x ex => ?_, r.good.tab, fun x o q => ?_⟩, ?_, fun j d q => ?_, fun j x h => h.elim, fun j k x n h => h.elim, Same.refl _, fun x o q _ _ _ => q, fun x o q _ _ f => f, fun x cc rr ex q => ⟨rr, q⟩, fun x h => h.elim⟩⟩
  · by_cases z : x = c
    · subst z; rw [upd_same] at q; cases q; exact hc
    · rw [upd_ne z] at q; exact r.good.sub x o q
  · cases ex
    exact ⟨by rw [upd_ne nac]; exact fa, c, cs, i.toNat, b, m, n, by rw [Int.toNat_of_nonneg ok.2.1]; exact h1, upd_same, ok.1, ok.2.2⟩
  · by_cases z : x = c
    · subst z; rw [upd_same] at q; cases q; exact NT.lst
    · rw [upd_ne z] at q; exact r.good.fnt x o q
  · have := r.len
    simpa [entry] using this
  · have q' := entry_get q
    match j, q' with
    | 0, q' =>
      cases q'
      obtain ⟨u, g1, y, rfl, g2⟩ := r.get 0 (.scr ns) rfl
      exact ⟨_, g1, y, rfl, Same.seq s2 g2⟩
    | 1, q' =>
      cases q'
      exact ⟨_, e1, a, rfl, rfl⟩
    | j + 2, q' => simp at q'
theorem scr_good {K : Frag} {H : Hp} {a : Addr} {xs : List V} (h : SqL K H a xs) (t : LamX.Tabs Tab.T H) : ∃ F, Good K none F H ∧ SqL K F a xs := by
  rcases h with h | h
  · refine ⟨fun b => if b = a then H b else none, ⟨fun b o q => ?_, (fun _ e => nomatch e), t, fun b o q => ?_⟩, .inl ?_⟩
    · by_cases z : b = a
      · simpa [z] using q
      · simp [z] at q
    · by_cases z : b = a
      · subst z
        simp only [if_true] at q
        rcases h with h | ⟨u, h⟩
        · rw [h] at q; cases q; exact NT.lst
        · rw [h] at q; cases q; exact fun ps z => by cases z
      · simp [z] at q
    · rcases h with h | ⟨u, h⟩
      · exact .inl (by simpa using h)
      · exact .inr ⟨u, by simpa using h⟩
  · exact ⟨fun _ => none, ⟨(fun b o q => nomatch (show (none : Option HO) = some o from q)), (fun _ e => nomatch e), t, (fun b o q => nomatch (show (none : Option HO) = some o from q))⟩, .inr h⟩
theorem law_body {P : Program} {w : World} {K : PySem.W.Frag} {mg : Str → Option Value} {base : Heap} {G : Gam} {n : NB} {cls : List Str} {N : List Str} {qual : Str} {scope : Scope} {f : Addr} {cdv : Value} {A : Around} {outer : List Env} {s : Shared} {H : Hp} {E : XK}
    (so : SOk (cxOf (L2.CX P w) P w K mg base N qual scope f cdv A outer s H E) G n cls scope) (hN : 2 ≤ N.length) (g : Nat) (ss : List Wk.S) {st : Stmt} {rest : List Stmt} (hc1 : chkS G n N cls scope (.movA (.name 1) (.call g [.var 0])) st = true) (hc : chkSs G n N cls scope ss rest = true)
    (hg : G.call g = cHand) (sem : ∀ ns, wps G ss (entry N [.scr ns, .hand]) lawPost) {vs : List V} {Q : VK} (h : spLaw K vs H Q E) :
    ∃ t, PSs (cxOf (L2.CX P w) P w K mg base N qual scope f cdv A outer s H E) (st :: rest) t ∧ t { nx := fun _ H' => Q .non H', rt := Q } (L2.start N vs) H := by
  have tk := takes_of (X := cxOf (L2.CX P w) P w K mg base N qual scope f cdv A outer s H E) rfl rfl rfl rfl
  refine ⟨_, pss_cons (sndS _ st so hc1 tk) (sndSs ss rest so hc tk), ?_⟩
  obtain ⟨a, ns, rfl, sq, hl, tb, hq⟩ := h
  obtain ⟨F, gd, sq'⟩ := scr_good sq tb
  have rel := Rel.entry (N := N) gd (ds := [.scr ns]) (vs := [.ref a]) (⟨_, _, fun _ => False, fun _ => False, rfl, fun _ t => t.elim, fun _ t => t.elim, fun _ t => t.elim, ⟨a, rfl, sq'⟩, rfl⟩)
  refine ⟨none, F, H, fun _ => False, F, _, _, { nx := fun env => ∃ o cs i b m n, env = entry N [.scr ns, hndD o cs i b m n] ∧ hndOk cs i b m n, rt := fun _ _ => False, bk := fun _ => False, ct := fun _ => False, ex := fun _ _ => False }, rel, ?_, ⟨fun σ F1 H1 env P r h => ?_, fun σ F H env P r h => h.elim, fun σ F H env P r h => h.elim, fun σ F H env P d v T r rp t h => h.elim, fun σ F H env P e c dx r er h => h.elim⟩, fun _ m => m.elim⟩
  · simp only [wp, ev, evs, hg]
    refine ⟨.scr ns, rfl, fun d => ∃ env', bindT (.name 1) d ((entry N [.scr ns]).map (Option.map fr)) = some env' ∧ ∃ o cs i b m n, env' = entry N [.scr ns, hndD o cs i b m n] ∧ hndOk cs i b m n, fun _ => False, ⟨ns, rfl, hl, fun o cs i b m n ok => ⟨_, rfl, o, cs, i, b, m, n, ?_, ok⟩⟩, fun d q => q, fun e z => z⟩
    match N, hN with
    | x :: y :: r, _ => simp [entry, List.replicate_succ, Wk.fr]
  · obtain ⟨o0, cs, i, b, m, n, rfl, ok⟩ := h
    obtain ⟨a2, F2, rel2⟩ := rel_hand hN r ok
    exact ⟨some a2, F2, H1, fun _ => False, F2, _, _, lawPost, rel2, sem ns, ⟨fun σ F H env P r h => h.elim, fun σ F H env P r h => h.elim, fun σ F H env P r h => h.elim, fun σ F H env P d v T r rp t h => by
      have h : d = .bl true := h
      subst h
      have hv : v = V.bl true := rp
      subst hv
      exact hq H, fun σ F H env P e c dx r er h => h.elim⟩, fun _ m => m.elim⟩
end Wk
namespace Wk
open PySem PySem.Spec PyProof.Rows L2
section
variable [Tab] {P : Program} {w : World} {K : PySem.W.Frag} {mg : Str → Option Value} {base : Heap} {cls : List Str}
theorem CallOk.mono {k k' : Nat} {x : Str} {m : Nat} {C : Con} (h : CallOk P w K mg base k x m C) (l : k ≤ k') : CallOk P w K mg base k' x m C := by
  obtain ⟨f, fd, ps, j, hj, r⟩ := h
  exact ⟨f, fd, ps, j, Nat.le_trans hj l, r⟩
theorem CallOkG.mono {k k' : Nat} {x : Str} {m : Nat} {C : Con} (h : CallOkG P w K mg base k x m C) (l : k ≤ k') : CallOkG P w K mg base k' x m C := by
  obtain ⟨f, fd, ps, j, hj, r⟩ := h
  exact ⟨f, fd, ps, j, Nat.le_trans hj l, r⟩
theorem CallOk.g {k : Nat} {x : Str} {m : Nat} {C : Con} (h : CallOk P w K mg base k x m C) : CallOkG P w K mg base k x m C := by
  obtain ⟨f, fd, ps, j, hj, h1, h2, h3, h4⟩ := h
  exact ⟨f, fd, ps, j, hj, h1, h2, h3, FnOkG.of h4⟩
theorem Md.succ2 {G G' : Gam} {n : Nat} (md : Md P w K mg base G n cls) (h1 : G'.con = G.con) (h2 : G'.nm = G.nm) (h3 : G'.ar = G.ar) (h4 : ∀ f, f < n → G'.call f = G.call f) (h5 : G.lev ≤ G'.lev) (h6 : G'.gd = G.gd) (c : n < G'.gd → CallOk P w K mg base G'.lev (G'.nm n) (G'.ar n) (G'.call n)) (cg : G'.gd ≤ n → CallOkG P w K mg base G'.lev (G'.nm n) (G'.ar n) (G'.call n)) : Md P w K mg base G' (n + 1) cls where
  free := md.free
  con := fun x i h => md.con x i (by rw [← h1]; exact h)
  call := fun f hf hd => by
    by_cases e : f = n
    · subst e; exact c hd
    · have hf' : f < n := by omega
      rw [h2, h3, h4 f hf']
      exact (md.call f hf' (by rw [← h6]; exact hd)).mono h5
  callG := fun f hf hd => by
    by_cases e : f = n
    · subst e; exact cg hd
    · have hf' : f < n := by omega
      rw [h2, h3, h4 f hf']
      exact (md.callG f hf' (by rw [← h6]; exact hd)).mono h5
  cls := md.cls
theorem Md.succ {G G' : Gam} {n : Nat} (md : Md P w K mg base G n cls) (h1 : G'.con = G.con) (h2 : G'.nm = G.nm) (h3 : G'.ar = G.ar) (h4 : ∀ f, f < n → G'.call f = G.call f) (h5 : G.lev ≤ G'.lev) (c : CallOk P w K mg base G'.lev (G'.nm n) (G'.ar n) (G'.call n)) (h6 : G'.gd = G.gd := by rfl) : Md P w K mg base G' (n + 1) cls :=
  md.succ2 h1 h2 h3 h4 h5 h6 (fun _ => c) (fun _ => c.g)
/-- one that may show things -/
theorem Md.succG {G G' : Gam} {n : Nat} (md : Md P w K mg base G n cls) (h1 : G'.con = G.con) (h2 : G'.nm = G.nm) (h3 : G'.ar = G.ar) (h4 : ∀ f, f < n → G'.call f = G.call f) (h5 : G.lev ≤ G'.lev) (c : CallOkG P w K mg base G'.lev (G'.nm n) (G'.ar n) (G'.call n)) (hn : G'.gd ≤ n) (h6 : G'.gd = G.gd := by rfl) : Md P w K mg base G' (n + 1) cls :=
  md.succ2 h1 h2 h3 h4 h5 h6 (fun h => absurd h (by omega)) (fun _ => c)
theorem Md.to {G G' : Gam} {n m : Nat} (md : Md P w K mg base G n cls) (hm : m ≤ n) (h1 : G'.con = G.con) (h2 : G'.nm = G.nm) (h3 : G'.ar = G.ar) (h4 : ∀ f, f < m → G'.call f = G.call f) (h5 : G.lev ≤ G'.lev) (h6 : ∀ f, f < m → (f < G'.gd ↔ f < G.gd) := by intro f hf; first | exact Iff.rfl | omega) : Md P w K mg base G' m cls where
  free := md.free
  con := fun x i h => md.con x i (by rw [← h1]; exact h)
  call := fun f hf hd => by
    rw [h2, h3, h4 f hf]
    exact (md.call f (by omega) ((h6 f hf).mp hd)).mono h5
  callG := fun f hf hd => by
    rw [h2, h3, h4 f hf]
    have := h6 f hf
    exact (md.callG f (by omega) (by omega)).mono h5
  cls := md.cls
theorem callOk_of {x : Str} {params : Arguments} {body : List Stmt} {scope : Scope} {kws : List (Str × V)} {f : Addr} {fd : FuncData} {ps : List Str} {j k : Nat} {C : Con} {qual : Str} (F : FunD K x qual params body scope [] kws f fd) (g : mg x = some (.ref f)) (b : Binds K fd ps []) (hj : j ≤ k)
    (ok : FnOk P w K mg base (L2.CX P w) j f fd ps (spOf K mg ps.length C)) : CallOk P w K mg base k x ps.length C := ⟨f, fd, ps, j, hj, g, F.kp, b, ok⟩
theorem callOkG_of {x : Str} {params : Arguments} {body : List Stmt} {scope : Scope} {kws : List (Str × V)} {f : Addr} {fd : FuncData} {ps : List Str} {j k : Nat} {C : Con} {qual : Str} (F : FunD K x qual params body scope [] kws f fd) (g : mg x = some (.ref f)) (b : Binds K fd ps []) (hj : j ≤ k)
    (ok : FnOkG P w K mg base (L2.CX P w) j f fd ps (spOf K mg ps.length C)) : CallOkG P w K mg base k x ps.length C := ⟨f, fd, ps, j, hj, g, F.kp, b, ok⟩
def noCon : Con := fun _ _ _ => False
theorem fn_no {f : Addr} {fd : FuncData} {ps : List Str} {j m : Nat} : FnOk P w K mg base (L2.CX P w) j f fd ps (spOf K mg m noCon) :=
  ⟨fun vs H Q E ⟨F, hd, ds, g, r, hl, Q', Z', c, i1, i2⟩ => c.elim, fun A outer s H args us vs Q E hr e0 hb r ⟨F, hd, ds, g, r', hl, Q', Z', c, i1, i2⟩ => c.elim⟩
theorem fn_law {G : Gam} {n : Nat} (md : Md P w K mg base G n cls) {N : List Str} {x qual : Str} {params : Arguments} {body : List Stmt} {scope : Scope} {kws : List (Str × V)} {f : Addr} {fd : FuncData} (F : FunD K x qual params body scope [] kws f fd) (S : FnScope N ["script"] scope) (hN : 2 ≤ N.length) (g : Nat) (ss : List Wk.S)
    {st : Stmt} {rest : List Stmt} (hb : body = st :: rest) (hc1 : chkS G (n, false, false) N cls scope (.movA (.name 1) (.call g [.var 0])) st = true) (hc : chkSs G (n, false, false) N cls scope ss rest = true) (hg : G.call g = cHand) (sem : ∀ ns, wps G ss (entry N [.scr ns, .hand]) lawPost) :
    FnOk P w K mg base (L2.CX P w) (G.lev + 1) f fd ["script"] (spLaw K) := by
  subst hb
  refine F.ok S (fun vs H Q E ⟨a, ns, e, _⟩ => by rw [e]; rfl) (fun cdv A outer s H vs Q E hr h => ?_)
  exact law_body (sok_of (n := (n, false, false)) md S.nd S.kind hr (fun h => by cases h) (fun h => by cases h)) hN g ss hc1 hc hg sem h
end
end Wk
end sec_W18

section sec_W19
set_option Elab.async false
set_option linter.all false
set_option maxRecDepth 100000
set_option maxHeartbeats 8000000
namespace Wk
open PySem PySem.Spec PyProof.Rows L2
/-! ## tools for the plain side -/
theorem ex_some {α : Type} {a : α} {Q : α → Prop} : (∃ d, some (some a) = some (some d) ∧ Q d) ↔ Q a := ⟨fun ⟨d, e, q⟩ => by cases e; exact q, fun q => ⟨a, rfl, q⟩⟩
theorem ex_eq {α : Type} {a : α} {Q : α → Prop} : (∃ d, a = d ∧ Q d) ↔ Q a := ⟨fun ⟨d, e, q⟩ => by cases e; exact q, fun q => ⟨a, rfl, q⟩⟩
theorem ex_bl {b : Bool} {Q : Bool → Prop} : (∃ k, D.bl b = .bl k ∧ Q k) ↔ Q b := ⟨fun ⟨d, e, q⟩ => by cases e; exact q, fun q => ⟨b, rfl, q⟩⟩
theorem ex_int {b : Int} {Q : Int → Prop} : (∃ k, D.int b = .int k ∧ Q k) ↔ Q b := ⟨fun ⟨d, e, q⟩ => by cases e; exact q, fun q => ⟨b, rfl, q⟩⟩
theorem ex_st {α : Type} {a : α} {Q : α → Prop} : (∃ d, some a = some d ∧ Q d) ↔ Q a := ⟨fun ⟨d, e, q⟩ => by cases e; exact q, fun q => ⟨a, rfl, q⟩⟩
/-- a call -/
theorem mc_iff {C : Con} {ds : List D} {Q : D → Prop} {Z : Err → Prop} (h : C ds Q Z) : mc C ds Q Z := ⟨Q, Z, h, fun _ h => h, fun _ h => h⟩
/-- a comprehension whose items are told by a function -/
theorem compW_map {f : D → (Option D → Prop) → Prop} {g : D → D} : ∀ {xs : List D} {Q : List D → Prop}, (∀ x ∈ xs, ∀ R : Option D → Prop, R (some (g x)) → f x R) → Q (xs.map g) → compW f xs Q
  | [], Q, _, q => q
  | x :: xs, Q, h, q => h x (by simp) _ (compW_map (fun y hy => h y (by simp [hy])) q)
theorem frs_int (xs : List Int) : frs (xs.map D.int) = xs.map D.int := by
  induction xs with
  | nil => rfl
  | cons x xs ih => simp [frs, Wk.fr, ih]
theorem frs_of (f : D → D) : True := trivial
theorem ints_map (xs : List Int) : ints? (xs.map D.int) = some xs := by
  induction xs with
  | nil => rfl
  | cons x xs ih => simp [ints?, ih]
theorem bls_map (xs : List Bool) : bls? (xs.map D.bl) = some xs := by
  induction xs with
  | nil => rfl
  | cons x xs ih => simp [bls?, ih]
theorem cls_int (xs : List Int) : cls (xs.map D.int) = true := by
  induction xs with
  | nil => rfl
  | cons x xs ih => simp [cls, Wk.cl, ih]
theorem atI_map {α : Type} (f : α → D) (xs : List α) (i : Int) : L2.atI (xs.map f) i = (L2.atI xs i).map f := by
  unfold L2.atI
  rw [List.length_map]
  cases ixN xs.length i with
  | none => rfl
  | some j => simp
theorem atI_nat {α : Type} {xs : List α} {i : Nat} (h : i < xs.length) : L2.atI xs (i : Int) = some xs[i] := by
  unfold L2.atI ixN
  rw [if_pos (by omega), if_pos (by omega)]
  simp [h]
end Wk
namespace Wk
open PySem PySem.Spec PyProof.Rows L2
theorem compW_of {α : Type} {f : D → (Option D → Prop) → Prop} {h g : α → D} : ∀ {xs : List α} {Q : List D → Prop}, (∀ a ∈ xs, ∀ R : Option D → Prop, R (some (g a)) → f (h a) R) → Q (xs.map g) → compW f (xs.map h) Q
  | [], Q, _, q => q
  | x :: xs, Q, k, q => k x (by simp) _ (compW_of (fun y hy => k y (by simp [hy])) q)
theorem bls_mapf {α : Type} (f : α → Bool) (xs : List α) : bls? (xs.map fun a => D.bl (f a)) = some (xs.map f) := by
  induction xs with
  | nil => rfl
  | cons x xs ih => simp [bls?, ih]
theorem ints_mapf {α : Type} (f : α → Int) (xs : List α) : ints? (xs.map fun a => D.int (f a)) = some (xs.map f) := by
  induction xs with
  | nil => rfl
  | cons x xs ih => simp [ints?, ih]
theorem ints_eq : ∀ {ds : List D} {xs : List Int}, ints? ds = some xs → ds = xs.map D.int
  | [], xs, h => by simp [ints?] at h; subst h; rfl
  | .int i :: ds, xs, h => by
    simp only [ints?, Option.map_eq_some_iff] at h
    obtain ⟨ys, h, rfl⟩ := h
    rw [ints_eq h]; rfl
  | .non :: _, _, h => by simp [ints?] at h
  | .bl _ :: _, _, h => by simp [ints?] at h
  | .str _ :: _, _, h => by simp [ints?] at h
  | .hand :: _, _, h => by simp [ints?] at h
  | .scr _ :: _, _, h => by simp [ints?] at h
  | .tup _ :: _, _, h => by simp [ints?] at h
  | .lst _ _ :: _, _, h => by simp [ints?] at h
  | .dik _ _ :: _, _, h => by simp [ints?] at h
  | .dit _ _ :: _, _, h => by simp [ints?] at h
theorem zipD_int : ∀ (xs ys : List Int), zipD (xs.map D.int) (ys.map D.int) = (xs.zip ys).map fun p => .tup [.int p.1, .int p.2]
  | [], _ => rfl
  | _ :: _, [] => rfl
  | x :: xs, y :: ys => by simp [zipD, zipD_int xs ys]
theorem eqOk_int (a b : Int) : eqOk (.int a) (.int b) := ⟨rfl, rfl, .inl (by simp [dep])⟩
/-- the least of a list -/
def mn : List Int → Int
  | [] => 0
  | [x] => x
  | x :: y :: r => min x (mn (y :: r))
theorem mn_le : ∀ {xs : List Int} {x : Int}, x ∈ xs → mn xs ≤ x
  | [x], y, h => by simp at h; simp [mn, h]
  | x :: y :: r, z, h => by
    rcases List.mem_cons.mp h with rfl | h
    · exact Int.min_le_left _ _
    · exact Int.le_trans (Int.min_le_right _ _) (mn_le h)
theorem mn_mem : ∀ {xs : List Int}, xs ≠ [] → mn xs ∈ xs
  | [x], _ => by simp [mn]
  | x :: y :: r, _ => by
    simp only [mn]
    rcases Int.le_total x (mn (y :: r)) with h | h
    · rw [Int.min_eq_left h]; simp
    · rw [Int.min_eq_right h]
      exact List.mem_cons_of_mem _ (mn_mem (by simp))
theorem mn_uniq {xs : List Int} {m : Int} (h : m ∈ xs) (k : ∀ y ∈ xs, m ≤ y) : m = mn xs := Int.le_antisymm (k _ (mn_mem fun e => by simp [e] at h)) (mn_le h)
/-- the greatest of a list -/
def mx : List Int → Int
  | [] => 0
  | [x] => x
  | x :: y :: r => max x (mx (y :: r))
theorem le_mx : ∀ {xs : List Int} {x : Int}, x ∈ xs → x ≤ mx xs
  | [x], y, h => by simp at h; simp [mx, h]
  | x :: y :: r, z, h => by
    rcases List.mem_cons.mp h with rfl | h
    · exact Int.le_max_left _ _
    · exact Int.le_trans (le_mx h) (Int.le_max_right _ _)
theorem mx_mem : ∀ {xs : List Int}, xs ≠ [] → mx xs ∈ xs
  | [x], _ => by simp [mx]
  | x :: y :: r, _ => by
    simp only [mx]
    rcases Int.le_total x (mx (y :: r)) with h | h
    · rw [Int.max_eq_right h]
      exact List.mem_cons_of_mem _ (mx_mem (by simp))
    · rw [Int.max_eq_left h]; simp
theorem mx_uniq {xs : List Int} {m : Int} (h : m ∈ xs) (k : ∀ y ∈ xs, y ≤ m) : m = mx xs := Int.le_antisymm (le_mx h) (k _ (mx_mem fun e => by simp [e] at h))
end Wk
namespace Wk
open PySem PySem.Spec PyProof.Rows L2
/-! ## readings at constructors -/
section
variable {Q : D → Prop} {R : List D → Prop}
theorem b_add (i j : Int) : binW .Add (.int i) (.int j) Q = Q (.int (i + j)) := rfl
theorem b_sub (i j : Int) : binW .Sub (.int i) (.int j) Q = Q (.int (i - j)) := rfl
theorem b_mul (i j : Int) : binW .Mult (.int i) (.int j) Q = (CMul i j ∧ Q (.int (i * j))) := rfl
theorem b_div (i j : Int) : binW .FloorDiv (.int i) (.int j) Q = (CDiv i j ∧ Q (.int (i / j))) := rfl
theorem b_mod (i j : Int) : binW .Mod (.int i) (.int j) Q = (0 < j ∧ Q (.int (i % j))) := rfl
theorem b_pow (i j : Int) : binW .Pow (.int i) (.int j) Q = (CPow i j ∧ Q (.int (i ^ j.toNat))) := rfl
theorem b_addT (xs ys : List D) : binW .Add (.tup xs) (.tup ys) Q = (xs.length + ys.length ≤ sizeLine ∧ Q (.tup (xs ++ ys))) := rfl
theorem b_addL (o o' : Bool) (xs ys : List D) : binW .Add (.lst o xs) (.lst o' ys) Q = (xs.length + ys.length ≤ sizeLine ∧ Q (.lst true (xs ++ ys))) := rfl
theorem b_mulL (o : Bool) (xs : List D) (k : Int) : binW .Mult (.lst o xs) (.int k) Q = ((k ≤ 1000 ∧ -1000 ≤ k ∧ xs.length ≤ 1000) ∧ Q (.lst true (List.replicate k.toNat (Wk.frs xs)).flatten)) := rfl
theorem b_mulT (xs : List D) (k : Int) : binW .Mult (.tup xs) (.int k) Q = ((k ≤ 1000 ∧ -1000 ≤ k ∧ xs.length ≤ 1000) ∧ Q (.tup (List.replicate k.toNat (Wk.frs xs)).flatten)) := rfl
theorem q_lt (i j : Int) : cmpW .Lt (.int i) (.int j) Q = Q (.bl (decide (i < j))) := rfl
theorem q_le (i j : Int) : cmpW .LtE (.int i) (.int j) Q = Q (.bl (decide (i ≤ j))) := rfl
theorem q_gt (i j : Int) : cmpW .Gt (.int i) (.int j) Q = Q (.bl (decide (j < i))) := rfl
theorem q_ge (i j : Int) : cmpW .GtE (.int i) (.int j) Q = Q (.bl (decide (j ≤ i))) := rfl
theorem q_eq (x y : D) : cmpW .Eq x y Q = (eqOk x y ∧ Q (.bl (eqD x y))) := by cases x <;> cases y <;> rfl
theorem q_ne (x y : D) : cmpW .NotEq x y Q = (eqOk x y ∧ Q (.bl (!eqD x y))) := by cases x <;> cases y <;> rfl
theorem q_isN (x : D) : cmpW .Is x .non Q = Q (.bl (isNon x)) := by cases x <;> rfl
theorem q_isnN (x : D) : cmpW .IsNot x .non Q = Q (.bl (!isNon x)) := by cases x <;> rfl
theorem i_tup (xs : List D) (i : Int) : idxW (.tup xs) (.int i) Q = ∃ d, L2.atI xs i = some d ∧ Q d := rfl
theorem i_lst (o : Bool) (xs : List D) (i : Int) : idxW (.lst o xs) (.int i) Q = ∃ d, L2.atI xs i = some d ∧ Q d := rfl
theorem l_tup (xs : List D) (lo hi : Option Int) : slW (.tup xs) lo hi Q = Q (.tup (cutD xs lo hi)) := rfl
theorem l_lst (o : Bool) (xs : List D) (lo hi : Option Int) : slW (.lst o xs) lo hi Q = Q (.lst true (cutD xs lo hi)) := rfl
theorem l_scr (xs : List Int) (lo hi : Option Int) : slW (.scr xs) lo hi Q = Q (.lst true ((cutD xs lo hi).map .int)) := rfl
theorem r_tup (xs : List D) : revW (.tup xs) Q = Q (.tup xs.reverse) := rfl
theorem r_lst (o : Bool) (xs : List D) : revW (.lst o xs) Q = Q (.lst true xs.reverse) := rfl
theorem a_lenT (xs : List D) : bltW .len [.tup xs] Q = Q (.int xs.length) := rfl
theorem a_lenL (o : Bool) (xs : List D) : bltW .len [.lst o xs] Q = Q (.int xs.length) := rfl
theorem a_abs (i : Int) : bltW .abs [.int i] Q = Q (.int (if i < 0 then -i else i)) := rfl
theorem a_int (i : Int) : bltW .int [.int i] Q = Q (.int i) := rfl
theorem a_tupT (xs : List D) : bltW .tuple [.tup xs] Q = Q (.tup xs) := rfl
theorem a_tupL (o : Bool) (xs : List D) : bltW .tuple [.lst o xs] Q = Q (.tup xs) := rfl
theorem a_lstT (xs : List D) : bltW .list [.tup xs] Q = Q (.lst true xs) := rfl
theorem a_lstL (o : Bool) (xs : List D) : bltW .list [.lst o xs] Q = Q (.lst true xs) := rfl
theorem a_min2 (i j : Int) : bltW .min [.int i, .int j] Q = Q (.int (if j < i then j else i)) := rfl
theorem a_max2 (i j : Int) : bltW .max [.int i, .int j] Q = Q (.int (if j > i then j else i)) := rfl
theorem pyDs_ints : ∀ ns : List Int, pyDs (ns.map D.int) = ns.map PyData.int
  | [] => rfl
  | n :: ns => by simp only [List.map_cons, pyDs, pyDs_ints ns, pyD]
theorem gnds_ints : ∀ ns : List Int, gnds (ns.map D.int) = true
  | [] => rfl
  | n :: ns => by simp only [List.map_cons, gnds, gnd, gnds_ints ns, Bool.and_self]
theorem deps_ints : ∀ ns : List Int, deps (ns.map D.int) = 0
  | [] => rfl
  | n :: ns => by simp only [List.map_cons, deps, dep, deps_ints ns, Nat.max_self]
theorem mmOk_ints (ns : List Int) : MmOk (ns.map D.int) where
  gn := gnds_ints ns
  al := by
    rw [pyDs_ints]
    refine ⟨fun x hx y hy => ?_, fun x hx => ?_⟩
    · obtain ⟨i, _, rfl⟩ := List.mem_map.mp hx
      obtain ⟨j, _, rfl⟩ := List.mem_map.mp hy
      simp only [PySem.W.alike]
    · obtain ⟨i, _, rfl⟩ := List.mem_map.mp hx
      exact fun z => by cases z
  dp := by rw [deps_ints]; omega
theorem ltD_int (i j : Int) : ltD (.int i) (.int j) = decide (i < j) := by
  unfold ltD
  simp only [pyD]
  exact PySem.W.dataLt_int i j
theorem mn_two (a b : Int) : ∀ r : List Int, mn (a :: b :: r) = mn ((if b < a then b else a) :: r)
  | [] => by simp only [mn]; split <;> omega
  | c :: r => by simp only [mn]; split <;> omega
theorem mx_two (a b : Int) : ∀ r : List Int, mx (a :: b :: r) = mx ((if a < b then b else a) :: r)
  | [] => by simp only [mx]; split <;> omega
  | c :: r => by simp only [mx]; split <;> omega
theorem minDD_ints : ∀ (ns : List Int) (a : Int), minDD (.int a) (ns.map D.int) = .int (mn (a :: ns))
  | [], a => rfl
  | b :: ns, a => by
    rw [mn_two]
    unfold minDD
    rw [List.map_cons, List.foldl_cons, ltD_int]
    by_cases h : b < a
    · rw [if_pos (by simpa using h), if_pos h]
      exact minDD_ints ns b
    · rw [if_neg (by simpa using h), if_neg h]
      exact minDD_ints ns a
theorem maxDD_ints : ∀ (ns : List Int) (a : Int), maxDD (.int a) (ns.map D.int) = .int (mx (a :: ns))
  | [], a => rfl
  | b :: ns, a => by
    rw [mx_two]
    unfold maxDD
    rw [List.map_cons, List.foldl_cons, ltD_int]
    by_cases h : a < b
    · rw [if_pos (by simpa using h), if_pos h]
      exact maxDD_ints ns b
    · rw [if_neg (by simpa using h), if_neg h]
      exact maxDD_ints ns a
theorem min_lI (o : Bool) (ns : List Int) : bltW .min [.lst o (ns.map D.int)] Q = (ns ≠ [] ∧ Q (.int (mn ns))) := by
  cases ns with
  | nil => exact propext ⟨fun h => h.elim, fun h => absurd rfl h.1⟩
  | cons a ns =>
    rw [← minDD_ints]
    exact propext ⟨fun h => ⟨by simp, h.2⟩, fun h => ⟨mmOk_ints (a :: ns), h.2⟩⟩
theorem max_lI (o : Bool) (ns : List Int) : bltW .max [.lst o (ns.map D.int)] Q = (ns ≠ [] ∧ Q (.int (mx ns))) := by
  cases ns with
  | nil => exact propext ⟨fun h => h.elim, fun h => absurd rfl h.1⟩
  | cons a ns =>
    rw [← maxDD_ints]
    exact propext ⟨fun h => ⟨by simp, h.2⟩, fun h => ⟨mmOk_ints (a :: ns), h.2⟩⟩
theorem min_tI (ns : List Int) : bltW .min [.tup (ns.map D.int)] Q = (ns ≠ [] ∧ Q (.int (mn ns))) := by
  cases ns with
  | nil => exact propext ⟨fun h => h.elim, fun h => absurd rfl h.1⟩
  | cons a ns =>
    rw [← minDD_ints]
    exact propext ⟨fun h => ⟨by simp, h.2⟩, fun h => ⟨mmOk_ints (a :: ns), h.2⟩⟩
theorem max_tI (ns : List Int) : bltW .max [.tup (ns.map D.int)] Q = (ns ≠ [] ∧ Q (.int (mx ns))) := by
  cases ns with
  | nil => exact propext ⟨fun h => h.elim, fun h => absurd rfl h.1⟩
  | cons a ns =>
    rw [← maxDD_ints]
    exact propext ⟨fun h => ⟨by simp, h.2⟩, fun h => ⟨mmOk_ints (a :: ns), h.2⟩⟩
theorem a_min {o : Bool} {xs : List D} {ns : List Int} (h : ints? xs = some ns) (k : ns ≠ []) (q : Q (.int (mn ns))) : bltW .min [.lst o xs] Q := by
  rw [ints_eq h, min_lI]; exact ⟨k, q⟩
theorem a_max {o : Bool} {xs : List D} {ns : List Int} (h : ints? xs = some ns) (k : ns ≠ []) (q : Q (.int (mx ns))) : bltW .max [.lst o xs] Q := by
  rw [ints_eq h, max_lI]; exact ⟨k, q⟩
theorem a_sumT (xs : List D) : bltW .sum [.tup xs] Q = ∃ ns, ints? xs = some ns ∧ Q (.int ns.sum) := rfl
theorem a_sum (o : Bool) (xs : List D) : bltW .sum [.lst o xs] Q = ∃ ns, ints? xs = some ns ∧ Q (.int ns.sum) := rfl
theorem a_all (o : Bool) (xs : List D) : bltW .all [.lst o xs] Q = ∃ bs, bls? xs = some bs ∧ Q (.bl (bs.all id)) := rfl
theorem a_any (o : Bool) (xs : List D) : bltW .any [.lst o xs] Q = ∃ bs, bls? xs = some bs ∧ Q (.bl (bs.any id)) := rfl
theorem s_seqT (xs : List D) : srcW .seq [.tup xs] R = R (Wk.frs xs) := propext ⟨fun ⟨_, e, q⟩ => by cases e; exact q, fun q => ⟨_, rfl, q⟩⟩
theorem s_seqL (o : Bool) (xs : List D) : srcW .seq [.lst o xs] R = R (Wk.frs xs) := propext ⟨fun ⟨_, e, q⟩ => by cases e; exact q, fun q => ⟨_, rfl, q⟩⟩
theorem s_rng (n : Int) : srcW .rng [.int n] R = (-(2 ^ 62) ≤ n ∧ n < 2 ^ 62 ∧ R ((List.range n.toNat).map fun i => .int (i : Nat))) := rfl
theorem s_rng2 (a b : Int) : srcW .rng [.int a, .int b] R = ((-(2 ^ 62) ≤ a ∧ a < 2 ^ 62 ∧ -(2 ^ 62) ≤ b ∧ b < 2 ^ 62) ∧ R ((List.range (b - a).toNat).map fun i => .int (a + (i : Nat)))) := rfl
theorem s_enm (o : Bool) (xs : List D) : srcW .enm [.lst o xs] R = R (enmFrom 0 (Wk.frs xs)) := rfl
theorem s_zipT (xs ys : List D) : srcW .zip [.tup xs, .tup ys] R = R (zipD (Wk.frs xs) (Wk.frs ys)) := rfl
theorem s_zipL (o o' : Bool) (xs ys : List D) : srcW .zip [.lst o xs, .lst o' ys] R = R (zipD (Wk.frs xs) (Wk.frs ys)) := rfl
theorem t_name (i : Nat) (d : D) (env : Env') : bindT (.name i) d env = some (env.set i (some d)) := by cases d <;> rfl
theorem t_tupT (ts : List Tg) (ds : List D) (env : Env') : bindT (.tup ts) (.tup ds) env = bindTs ts ds env := rfl
theorem t_tupL (o : Bool) (ts : List Tg) (ds : List D) (env : Env') : bindT (.tup ts) (.lst o ds) env = bindTs ts ds env := rfl
theorem t_nil (env : Env') : bindTs [] [] env = some env := rfl
theorem t_cons (t : Tg) (ts : List Tg) (d : D) (ds : List D) (env : Env') : bindTs (t :: ts) (d :: ds) env = (bindT t d env).bind (bindTs ts ds) := rfl
theorem u_bl (b : Bool) : truthD (.bl b) = some b := rfl
theorem u_int (i : Int) : truthD (.int i) = some (i != 0) := rfl
theorem u_tup (xs : List D) : truthD (.tup xs) = some (!xs.isEmpty) := rfl
theorem u_lst (o : Bool) (xs : List D) : truthD (.lst o xs) = some (!xs.isEmpty) := rfl
end
end Wk
namespace Wk
theorem ty_int_int : (Ty.int == Ty.int) = true := rfl
theorem ty_int_bool : (Ty.int == Ty.bool) = false := rfl
theorem ty_int_str : (Ty.int == Ty.str) = false := rfl
theorem ty_int_tuple : (Ty.int == Ty.tuple) = false := rfl
theorem ty_int_list : (Ty.int == Ty.list) = false := rfl
theorem ty_int_dict : (Ty.int == Ty.dict) = false := rfl
theorem ty_bool_int : (Ty.bool == Ty.int) = false := rfl
theorem ty_bool_bool : (Ty.bool == Ty.bool) = true := rfl
theorem ty_bool_str : (Ty.bool == Ty.str) = false := rfl
theorem ty_bool_tuple : (Ty.bool == Ty.tuple) = false := rfl
theorem ty_bool_list : (Ty.bool == Ty.list) = false := rfl
theorem ty_bool_dict : (Ty.bool == Ty.dict) = false := rfl
theorem ty_str_int : (Ty.str == Ty.int) = false := rfl
theorem ty_str_bool : (Ty.str == Ty.bool) = false := rfl
theorem ty_str_str : (Ty.str == Ty.str) = true := rfl
theorem ty_str_tuple : (Ty.str == Ty.tuple) = false := rfl
theorem ty_str_list : (Ty.str == Ty.list) = false := rfl
theorem ty_str_dict : (Ty.str == Ty.dict) = false := rfl
theorem ty_tuple_int : (Ty.tuple == Ty.int) = false := rfl
theorem ty_tuple_bool : (Ty.tuple == Ty.bool) = false := rfl
theorem ty_tuple_str : (Ty.tuple == Ty.str) = false := rfl
theorem ty_tuple_tuple : (Ty.tuple == Ty.tuple) = true := rfl
theorem ty_tuple_list : (Ty.tuple == Ty.list) = false := rfl
theorem ty_tuple_dict : (Ty.tuple == Ty.dict) = false := rfl
theorem ty_list_int : (Ty.list == Ty.int) = false := rfl
theorem ty_list_bool : (Ty.list == Ty.bool) = false := rfl
theorem ty_list_str : (Ty.list == Ty.str) = false := rfl
theorem ty_list_tuple : (Ty.list == Ty.tuple) = false := rfl
theorem ty_list_list : (Ty.list == Ty.list) = true := rfl
theorem ty_list_dict : (Ty.list == Ty.dict) = false := rfl
theorem ty_dict_int : (Ty.dict == Ty.int) = false := rfl
theorem ty_dict_bool : (Ty.dict == Ty.bool) = false := rfl
theorem ty_dict_str : (Ty.dict == Ty.str) = false := rfl
theorem ty_dict_tuple : (Ty.dict == Ty.tuple) = false := rfl
theorem ty_dict_list : (Ty.dict == Ty.list) = false := rfl
theorem ty_dict_dict : (Ty.dict == Ty.dict) = true := rfl
end Wk

namespace Wk
open PySem PySem.Spec PyProof.Rows L2
theorem at5_0 {α : Type} (a b c d e : α) : L2.atI [a, b, c, d, e] 0 = some a := rfl
theorem at5_1 {α : Type} (a b c d e : α) : L2.atI [a, b, c, d, e] 1 = some b := rfl
theorem at5_2 {α : Type} (a b c d e : α) : L2.atI [a, b, c, d, e] 2 = some c := rfl
theorem at5_3 {α : Type} (a b c d e : α) : L2.atI [a, b, c, d, e] 3 = some d := rfl
theorem at5_4 {α : Type} (a b c d e : α) : L2.atI [a, b, c, d, e] 4 = some e := rfl
theorem ex_own {L : List D} {Q : List D → Prop} : (∃ xs, some (some (D.lst true L)) = some (some (.lst true xs)) ∧ Q xs) ↔ Q L := ⟨fun ⟨d, e, q⟩ => by cases e; exact q, fun q => ⟨L, rfl, q⟩⟩
theorem ex_ix {k : Int} {n : Nat} {Q : Nat → Prop} : (∃ j m, D.int k = .int j ∧ ixN n j = some m ∧ Q m) ↔ ∃ m, ixN n k = some m ∧ Q m := ⟨fun ⟨j, m, e, q⟩ => by cases e; exact ⟨m, q⟩, fun ⟨m, q⟩ => ⟨k, m, rfl, q⟩⟩
theorem ix5_1 : ixN 5 1 = some 1 := rfl
theorem ix5_2 : ixN 5 2 = some 2 := rfl
theorem ix5_3 : ixN 5 3 = some 3 := rfl
theorem ix5_4 : ixN 5 4 = some 4 := rfl
end Wk

namespace Wk
open PySem PySem.Spec PyProof.Rows L2
theorem ex_own' {L : List D} {Q : List D → Prop} : (∃ xs, D.lst true L = .lst true xs ∧ Q xs) ↔ Q L := ⟨fun ⟨d, e, q⟩ => by cases e; exact q, fun q => ⟨L, rfl, q⟩⟩
theorem ex_ix' {k : Int} {n : Nat} {Q : Nat → Prop} : (∃ j m, k = j ∧ ixN n j = some m ∧ Q m) ↔ ∃ m, ixN n k = some m ∧ Q m := ⟨fun ⟨j, m, e, q⟩ => by cases e; exact ⟨m, q⟩, fun ⟨m, q⟩ => ⟨k, m, rfl, q⟩⟩
theorem ne0_1 : (True → (1 : Nat) ≠ 0) ↔ True := by decide
theorem ne0_2 : (True → (2 : Nat) ≠ 0) ↔ True := by decide
theorem ne0_3 : (True → (3 : Nat) ≠ 0) ↔ True := by decide
theorem ne0_4 : (True → (4 : Nat) ≠ 0) ↔ True := by decide
theorem mul_small {a b : Int} (h : 0 ≤ a) (k : a < 4294967296) : CMul a b := .inl ⟨by omega, by omega⟩
theorem mul_smallR {a b : Int} (h : 0 ≤ b) (k : b < 4294967296) : CMul a b := .inr ⟨by omega, by omega⟩
end Wk

namespace Wk
open PySem PySem.Spec PyProof.Rows L2
theorem n_non : isNon .non = true := rfl
theorem n_bl (b : Bool) : isNon (.bl b) = false := rfl
theorem n_int (b : Int) : isNon (.int b) = false := rfl
theorem n_str (b : Str) : isNon (.str b) = false := rfl
theorem n_tup (b : List D) : isNon (.tup b) = false := rfl
theorem n_lst (o : Bool) (b : List D) : isNon (.lst o b) = false := rfl
theorem e_bl (a b : Bool) : eqD (.bl a) (.bl b) = (a == b) := rfl
theorem e_int (a b : Int) : eqD (.int a) (.int b) = (a == b) := rfl
theorem eqOk_bl (a b : Bool) : eqOk (.bl a) (.bl b) := ⟨rfl, rfl, .inl (by simp [dep])⟩
end Wk
end sec_W19

section sec_W20
set_option Elab.async false
set_option linter.all false
set_option maxRecDepth 100000
set_option maxHeartbeats 8000000
namespace Wk
open PySem PySem.Spec PyProof.Rows L2
/-! ## normal forms: side conditions ∧ what is wished -/
theorem andL (a b c : Prop) : (a ∧ b ∧ c) = ((a ∧ b) ∧ c) := propext and_assoc.symm
/-- what is handed on -/
def oK {α : Type} (o : α → Prop) (v : α) : Prop := o v
/-- comprehensions over anything -/
def compK {α : Type} (f : α → (Option D → Prop) → Prop) : List α → (List D → Prop) → Prop
  | [], Q => Q []
  | d :: ds, Q => f d fun o => compK f ds fun r => Q (match o with
    | none => r
    | some y => y :: r)
theorem compW_K (f : D → (Option D → Prop) → Prop) (xs : List D) (Q : List D → Prop) : compW f xs Q = compK (fun y o => f y (oK o)) xs Q := by
  induction xs generalizing Q with
  | nil => rfl
  | cons x xs ih =>
    unfold compW compK
    show f x _ = f x _
    congr 1
    funext o
    exact ih _
theorem compK_map {α β : Type} (h : α → β) (f : β → (Option D → Prop) → Prop) (xs : List α) (Q : List D → Prop) : compK f (xs.map h) Q = compK (fun a => f (h a)) xs Q := by
  induction xs generalizing Q with
  | nil => rfl
  | cons x xs ih =>
    rw [List.map_cons]
    unfold compK
    congr 1
    funext o
    exact ih _
theorem compK_nil {α : Type} (f : α → (Option D → Prop) → Prop) (Q : List D → Prop) : compK f [] Q = Q [] := rfl
theorem compK_cons {α : Type} (f : α → (Option D → Prop) → Prop) (d : α) (ds : List α) (Q : List D → Prop) : compK f (d :: ds) Q = f d fun o => compK f ds fun r => Q (match o with
    | none => r
    | some y => y :: r) := rfl
theorem ite_KK {α : Type} (c : Prop) [Decidable c] (o : α → Prop) (a b : α) : (if c then oK o a else oK o b) = oK o (if c then a else b) := by split <;> rfl
theorem ite_PK {α : Type} (c P : Prop) [Decidable c] (o : α → Prop) (a b : α) : (if c then P ∧ oK o a else oK o b) = ((c → P) ∧ oK o (if c then a else b)) := by split <;> simp_all
theorem ite_KP {α : Type} (c P : Prop) [Decidable c] (o : α → Prop) (a b : α) : (if c then oK o a else P ∧ oK o b) = ((¬ c → P) ∧ oK o (if c then a else b)) := by split <;> simp_all
theorem ite_PP {α : Type} (c P P' : Prop) [Decidable c] (o : α → Prop) (a b : α) : (if c then P ∧ oK o a else P' ∧ oK o b) = (((c → P) ∧ (¬ c → P')) ∧ oK o (if c then a else b)) := by split <;> simp_all
theorem ite_some {α : Type} (c : Prop) [Decidable c] (a b : α) : (if c then some a else some b) = some (if c then a else b) := by split <;> rfl
theorem ite_dint (c : Prop) [Decidable c] (a b : Int) : (if c then D.int a else D.int b) = D.int (if c then a else b) := by split <;> rfl
theorem ite_dbl (c : Prop) [Decidable c] (a b : Bool) : (if c then D.bl a else D.bl b) = D.bl (if c then a else b) := by split <;> rfl
section
variable {α : Type} {xs : List α} {Q : List D → Prop}
theorem ck_opt (P : α → Prop) (h : α → Option D) : compK (fun y o => P y ∧ oK o (h y)) xs Q = ((∀ y ∈ xs, P y) ∧ Q (xs.filterMap h)) := by
  induction xs generalizing Q with
  | nil => simp [compK]
  | cons x xs ih =>
    rw [compK_cons]
    simp only [ih]
    apply propext
    simp only [List.mem_cons, forall_eq_or_imp, List.filterMap_cons, oK]
    cases h x <;> simp [and_assoc]
theorem ck_opt0 (h : α → Option D) : compK (fun y o => oK o (h y)) xs Q = Q (xs.filterMap h) := by
  have := ck_opt (xs := xs) (Q := Q) (fun _ => True) h
  simpa using this
theorem fm_some (g : α → D) : (xs.filterMap fun y => some (g y)) = xs.map g := by
  induction xs with
  | nil => rfl
  | cons x xs ih => simp [ih]
theorem fm_if (c : α → Bool) (g : α → D) : (xs.filterMap fun y => if c y = true then some (g y) else none) = (xs.filter c).map g := by
  induction xs with
  | nil => rfl
  | cons x xs ih =>
    by_cases h : c x = true
    · simp [h, ih]
    · simp [h, ih]
theorem fm_dec (c : α → Prop) [DecidablePred c] (g : α → D) : (xs.filterMap fun y => if c y then some (g y) else none) = (xs.filter fun y => decide (c y)).map g := by
  rw [← fm_if]
  congr 1
  funext y
  by_cases h : c y <;> simp [h]
/-- what is drawn -/
def draw (n : Int) (Q : Int → Prop) : Prop := (0 < n ∧ n < 1073741824) ∧ ∀ r : Int, 0 ≤ r → r < n → Q r
theorem ck_draw (P : α → Prop) (n : α → Int) (g : α → Int → D) : compK (fun y o => P y ∧ draw (n y) fun r => oK o (some (g y r))) xs Q =
    ((∀ y ∈ xs, P y ∧ 0 < n y ∧ n y < 1073741824) ∧ ∀ rs : List Int, rs.length = xs.length → (∀ p ∈ xs.zip rs, 0 ≤ p.2 ∧ p.2 < n p.1) → Q ((xs.zip rs).map fun p => g p.1 p.2)) := by
  apply propext
  induction xs generalizing Q with
  | nil =>
    constructor
    · intro q
      exact ⟨by simp, fun rs _ _ => by simpa [compK] using q⟩
    · intro h
      exact h.2 [] rfl (by simp)
  | cons x xs ih =>
    rw [compK_cons]
    simp only [oK] at ih ⊢
    simp only [ih]
    unfold draw
    constructor
    · rintro ⟨p, ⟨n0, n1⟩, h⟩
      refine ⟨fun y hy => ?_, fun rs hl hr => ?_⟩
      · rcases List.mem_cons.mp hy with rfl | hy
        · exact ⟨p, n0, n1⟩
        · exact (h 0 (Int.le_refl _) n0).1 y hy
      · cases rs with
        | nil => simp at hl
        | cons r rs =>
          simp only [List.zip_cons_cons, List.mem_cons, forall_eq_or_imp] at hr
          exact (h r hr.1.1 hr.1.2).2 rs (by simpa using hl) hr.2
    · rintro ⟨p, h⟩
      have px := p x (by simp)
      refine ⟨px.1, px.2, fun r h0 h1 => ⟨fun y hy => p y (by simp [hy]), fun rs hl hr => ?_⟩⟩
      exact h (r :: rs) (by simp [hl]) (by simp only [List.zip_cons_cons, List.mem_cons, forall_eq_or_imp]; exact ⟨⟨h0, h1⟩, hr⟩)
theorem ck_draw0 (n : α → Int) (g : α → Int → D) : compK (fun y o => draw (n y) fun r => oK o (some (g y r))) xs Q =
    ((∀ y ∈ xs, 0 < n y ∧ n y < 1073741824) ∧ ∀ rs : List Int, rs.length = xs.length → (∀ p ∈ xs.zip rs, 0 ≤ p.2 ∧ p.2 < n p.1) → Q ((xs.zip rs).map fun p => g p.1 p.2)) := by
  have := ck_draw (xs := xs) (Q := Q) (fun _ => True) n g
  simpa using this
end
/-! ## readings without «there is» -/
def optV {α : Type} : Option α → (α → Prop) → Prop
  | some a, Q => Q a
  | none, _ => False
def getV : Option (Option D) → (D → Prop) → Prop
  | some (some d), Q => Q d
  | _, _ => False
def intV : D → (Int → Prop) → Prop
  | .int i, Q => Q i
  | _, _ => False
def blV : D → (Bool → Prop) → Prop
  | .bl i, Q => Q i
  | _, _ => False
def ownV : Option (Option D) → (List D → Prop) → Prop
  | some (some (.lst true xs)), Q => Q xs
  | _, _ => False
theorem optV_some {α : Type} (a : α) (Q : α → Prop) : optV (some a) Q = Q a := rfl
theorem getV_some (a : D) (Q : D → Prop) : getV (some (some a)) Q = Q a := rfl
theorem intV_int (a : Int) (Q : Int → Prop) : intV (.int a) Q = Q a := rfl
theorem blV_bl (a : Bool) (Q : Bool → Prop) : blV (.bl a) Q = Q a := rfl
theorem ownV_lst (xs : List D) (Q : List D → Prop) : ownV (some (some (.lst true xs))) Q = Q xs := rfl
theorem optV_eq {α : Type} (o : Option α) (Q : α → Prop) : (∃ d, o = some d ∧ Q d) = optV o Q := by
  cases o with
  | none => simp [optV]
  | some a => simp [optV]
theorem getV_eq (o : Option (Option D)) (Q : D → Prop) : (∃ d, o = some (some d) ∧ Q d) = getV o Q := by
  match o with
  | none => simp [getV]
  | some none => simp [getV]
  | some (some a) => simp [getV]
theorem intV_eq (o : D) (Q : Int → Prop) : (∃ d, o = .int d ∧ Q d) = intV o Q := by
  cases o <;> simp [intV]
theorem blV_eq (o : D) (Q : Bool → Prop) : (∃ d, o = .bl d ∧ Q d) = blV o Q := by
  cases o <;> simp [blV]
theorem ownV_eq (o : Option (Option D)) (Q : List D → Prop) : (∃ d, o = some (some (.lst true d)) ∧ Q d) = ownV o Q := by
  match o with
  | none => simp [ownV]
  | some none => simp [ownV]
  | some (some (.lst true xs)) => simp [ownV]
  | some (some (.lst false xs)) => simp [ownV]
  | some (some .non) => simp [ownV]
  | some (some (.int _)) => simp [ownV]
  | some (some (.bl _)) => simp [ownV]
  | some (some (.str _)) => simp [ownV]
  | some (some .hand) => simp [ownV]
  | some (some (.scr _)) => simp [ownV]
  | some (some (.tup _)) => simp [ownV]
  | some (some (.dik _ _)) => simp [ownV]
  | some (some (.dit _ _)) => simp [ownV]
section
variable (G : Gam) (env : Env') (Q : D → Prop) (Z : Err → Prop)
theorem v_var (i : Nat) : ev G (.var i) env Q Z = getV env[i]? fun d => Q (fr d) := by simp only [ev]; exact getV_eq _ _
theorem v_int (i : Int) : ev G (.int i) env Q Z = Q (.int i) := by simp only [ev]
theorem v_bl (i : Bool) : ev G (.bl i) env Q Z = Q (.bl i) := by simp only [ev]
theorem v_non : ev G .non env Q Z = Q .non := by simp only [ev]
theorem v_str (i : Str) : ev G (.str i) env Q Z = Q (.str i) := by simp only [ev]
theorem v_glo (x : Str) : ev G (.glo x) env Q Z = optV (G.con x) fun i => Q (.int i) := by simp only [ev]; exact optV_eq _ _
theorem v_bin (op : Operator) (a b : E) : ev G (.bin op a b) env Q Z = ev G a env (fun x => ev G b env (fun y => binW op x y Q) Z) Z := by simp only [ev]
theorem v_neg (a : E) : ev G (.neg a) env Q Z = ev G a env (fun x => intV x fun i => Q (.int (-i))) Z := by simp only [ev, intV_eq]
theorem v_cmp (op : CmpOp) (a b : E) : ev G (.cmp op a b) env Q Z = ev G a env (fun x => ev G b env (fun y => cmpW op x y Q) Z) Z := by simp only [ev]
theorem v_chain (op op' : CmpOp) (a b c : E) : ev G (.chain op op' a b c) env Q Z = ev G a env (fun x => ev G b env (fun y => cmpW op x y fun r => blV r fun k => if k = true then ev G c env (fun z => cmpW op' (fr y) z Q) Z else Q (.bl false)) Z) Z := by simp only [ev, blV_eq]
theorem v_and (es : List E) : ev G (.and es) env Q Z = evAnd G es env Q Z := by simp only [ev]
theorem v_or (es : List E) : ev G (.or es) env Q Z = evOr G es env Q Z := by simp only [ev]
theorem v_not (a : E) : ev G (.not a) env Q Z = ev G a env (fun x => blV x fun b => Q (.bl (!b))) Z := by simp only [ev, blV_eq]
theorem v_ite (c a b : E) : ev G (.ite c a b) env Q Z = ev G c env (fun x => optV (truthD x) fun k => if k = true then ev G a env Q Z else ev G b env Q Z) Z := by simp only [ev, optV_eq]
theorem v_tup (es : List E) : ev G (.tup es) env Q Z = evs G es env (fun ds => Q (.tup ds)) Z := by simp only [ev]
theorem v_lst (es : List E) : ev G (.lst es) env Q Z = evs G es env (fun ds => Q (.lst true ds)) Z := by simp only [ev]
theorem v_dnew (t : Bool) : ev G (.dnew t) env Q Z = if t = true then Q (.dit true []) else Q (.dik true []) := by simp only [ev]
theorem v_idx (a i : E) : ev G (.idx a i) env Q Z = ev G a env (fun x => ev G i env (fun y => idxW x y Q) Z) Z := by simp only [ev]
theorem v_sl (a : E) (lo hi : Option E) : ev G (.sl a lo hi) env Q Z = ev G a env (fun x => evO G lo env (fun l => evO G hi env (fun h => slW x l h Q) Z) Z) Z := by simp only [ev]
theorem v_rev (a : E) : ev G (.rev a) env Q Z = ev G a env (fun x => revW x Q) Z := by simp only [ev]
theorem v_call (f : Nat) (es : List E) : ev G (.call f es) env Q Z = evs G es env (fun ds => mc (G.call f) (frs ds) Q Z) Z := by simp only [ev]
theorem v_blt (b : B) (es : List E) : ev G (.blt b es) env Q Z = evs G es env (fun ds => bltW b ds Q) Z := by simp only [ev]
theorem v_isi (a : E) (t : Ty) : ev G (.isi a t) env Q Z = ev G a env (fun x => Q (.bl (isiD x t))) Z := by simp only [ev]
theorem v_said (f : Nat) (e : E) : ev G (.said f e) env Q Z = ev G e env (fun d => ms (G.said f) (.ok (fr d)) Q) (fun z => ms (G.said f) (.error z) Q) := by simp only [ev]
theorem v_lc (own : List (Str × Nat)) (tg : Tg) (k : It) (src : List E) (c : Option E) (elt : E) : ev G (.lc own tg k src c elt) env Q Z = evs G src env (fun ds => srcW k ds fun xs => xs.length ≤ 1000000 ∧
      compW (fun x o => optV (bindT tg x (wipeE env (own.map (·.2)))) fun env' => evC G c env' (fun b => if b = true then ev G elt env' (fun y => o (some y)) (fun _ => False) else o none)) xs fun r => Q (.lst true r)) Z := by simp only [ev, optV_eq]
theorem vs_nil (Q : List D → Prop) : evs G [] env Q Z = Q [] := by simp only [evs]
theorem vs_cons (e : E) (es : List E) (Q : List D → Prop) : evs G (e :: es) env Q Z = ev G e env (fun d => evs G es env (fun ds => Q (d :: ds)) Z) Z := by simp only [evs]
theorem vO_none (Q : Option Int → Prop) : evO G none env Q Z = Q none := by simp only [evO]
theorem vO_some (e : E) (Q : Option Int → Prop) : evO G (some e) env Q Z = ev G e env (fun d => intV d fun i => Q (some i)) Z := by simp only [evO, intV_eq]
theorem vC_none (Q : Bool → Prop) : evC G none env Q = Q true := by simp only [evC]
theorem vC_some (e : E) (Q : Bool → Prop) : evC G (some e) env Q = ev G e env (fun d => optV (truthD d) Q) (fun _ => False) := by simp only [evC, optV_eq]
theorem va_one (e : E) : evAnd G [e] env Q Z = ev G e env Q Z := by simp only [evAnd]
theorem va_cons (e e' : E) (es : List E) : evAnd G (e :: e' :: es) env Q Z = ev G e env (fun x => blV x fun b => if b = true then evAnd G (e' :: es) env Q Z else Q (.bl false)) Z := by simp only [evAnd, blV_eq]
theorem vo_one (e : E) : evOr G [e] env Q Z = ev G e env Q Z := by simp only [evOr]
theorem vo_cons (e e' : E) (es : List E) : evOr G (e :: e' :: es) env Q Z = ev G e env (fun x => blV x fun b => if b = true then Q (.bl true) else evOr G (e' :: es) env Q Z) Z := by simp only [evOr, blV_eq]
end
/-! ## places -/
def inb (n : Nat) (i : Int) : Prop := -(n : Int) ≤ i ∧ i < n
def getI {α : Type} [Inhabited α] (xs : List α) (i : Int) : α := xs.getD (if 0 ≤ i then i.toNat else (i + xs.length).toNat) default
theorem ixN_in {n : Nat} {i : Int} (h : inb n i) : ixN n i = some (if 0 ≤ i then i.toNat else (i + n).toNat) := by
  obtain ⟨h1, h2⟩ := h
  unfold ixN
  by_cases h0 : 0 ≤ i
  · rw [if_pos h0, if_pos h2, if_pos h0]
  · rw [if_neg h0, if_neg h0]
    split
    · rfl
    · omega
theorem ixN_out {n : Nat} {i : Int} (h : ¬ inb n i) : ixN n i = none := by
  unfold inb at h
  unfold ixN
  by_cases h0 : 0 ≤ i
  · rw [if_pos h0, if_neg (by omega)]
  · rw [if_neg h0]
    split
    · omega
    · rfl
theorem atI_in {α : Type} [Inhabited α] {xs : List α} {i : Int} (h : inb xs.length i) : L2.atI xs i = some (getI xs i) := by
  unfold L2.atI getI
  rw [ixN_in h]
  show xs[_]? = _
  obtain ⟨h1, h2⟩ := h
  have : (if 0 ≤ i then i.toNat else (i + (xs.length : Int)).toNat) < xs.length := by split <;> omega
  rw [List.getD_eq_getElem?_getD, List.getElem?_eq_getElem this]
  rfl
theorem atI_out {α : Type} {xs : List α} {i : Int} (h : ¬ inb xs.length i) : L2.atI xs i = none := by
  unfold L2.atI
  rw [ixN_out h]
  rfl
theorem at_iff {α : Type} [Inhabited α] (f : α → D) (xs : List α) (i : Int) (Q : D → Prop) : (∃ d, L2.atI (xs.map f) i = some d ∧ Q d) = (inb xs.length i ∧ Q (f (getI xs i))) := by
  rw [atI_map]
  apply propext
  by_cases h : inb xs.length i
  · rw [atI_in h]
    simp [h]
  · rw [atI_out h]
    simp [h]
section
variable {Q : D → Prop} {R : List D → Prop} {α : Type}
theorem ix_tm [Inhabited α] (f : α → D) (xs : List α) (i : Int) : idxW (.tup (xs.map f)) (.int i) Q = (inb xs.length i ∧ Q (f (getI xs i))) := at_iff f xs i Q
theorem ix_lm [Inhabited α] (o : Bool) (f : α → D) (xs : List α) (i : Int) : idxW (.lst o (xs.map f)) (.int i) Q = (inb xs.length i ∧ Q (f (getI xs i))) := at_iff f xs i Q
theorem ix0 (a : D) (r : List D) : idxW (.tup (a :: r)) (.int 0) Q = Q a := by
  have e : L2.atI (a :: r) 0 = some a := by
    unfold L2.atI ixN
    rw [if_pos (by omega), if_pos (by simp only [List.length_cons]; omega)]
    rfl
  exact propext ⟨fun ⟨d, h, q⟩ => by rw [e] at h; cases h; exact q, fun q => ⟨_, e, q⟩⟩
theorem ix1 (a b : D) (r : List D) : idxW (.tup (a :: b :: r)) (.int 1) Q = Q b := by
  have e : L2.atI (a :: b :: r) 1 = some b := by
    unfold L2.atI ixN
    rw [if_pos (by omega), if_pos (by simp only [List.length_cons]; omega)]
    rfl
  exact propext ⟨fun ⟨d, h, q⟩ => by rw [e] at h; cases h; exact q, fun q => ⟨_, e, q⟩⟩
theorem ix2 (a b c : D) (r : List D) : idxW (.tup (a :: b :: c :: r)) (.int 2) Q = Q c := by
  have e : L2.atI (a :: b :: c :: r) 2 = some c := by
    unfold L2.atI ixN
    rw [if_pos (by omega), if_pos (by simp only [List.length_cons]; omega)]
    rfl
  exact propext ⟨fun ⟨d, h, q⟩ => by rw [e] at h; cases h; exact q, fun q => ⟨_, e, q⟩⟩
theorem ix3 (a b c x : D) (r : List D) : idxW (.tup (a :: b :: c :: x :: r)) (.int 3) Q = Q x := by
  have e : L2.atI (a :: b :: c :: x :: r) 3 = some x := by
    unfold L2.atI ixN
    rw [if_pos (by omega), if_pos (by simp only [List.length_cons]; omega)]
    rfl
  exact propext ⟨fun ⟨d, h, q⟩ => by rw [e] at h; cases h; exact q, fun q => ⟨_, e, q⟩⟩
theorem map_int (f : α → Int) (xs : List α) : (xs.map fun a => D.int (f a)) = (xs.map f).map D.int := by rw [List.map_map]; rfl
theorem min_m (o : Bool) (f : α → Int) (xs : List α) : bltW .min [.lst o (xs.map fun a => .int (f a))] Q = (xs ≠ [] ∧ Q (.int (mn (xs.map f)))) := by
  rw [map_int, min_lI, ne_eq, List.map_eq_nil_iff]
theorem max_m (o : Bool) (f : α → Int) (xs : List α) : bltW .max [.lst o (xs.map fun a => .int (f a))] Q = (xs ≠ [] ∧ Q (.int (mx (xs.map f)))) := by
  rw [map_int, max_lI, ne_eq, List.map_eq_nil_iff]
theorem min_mt (f : α → Int) (xs : List α) : bltW .min [.tup (xs.map fun a => .int (f a))] Q = (xs ≠ [] ∧ Q (.int (mn (xs.map f)))) := by
  rw [map_int, min_tI, ne_eq, List.map_eq_nil_iff]
theorem max_mt (f : α → Int) (xs : List α) : bltW .max [.tup (xs.map fun a => .int (f a))] Q = (xs ≠ [] ∧ Q (.int (mx (xs.map f)))) := by
  rw [map_int, max_tI, ne_eq, List.map_eq_nil_iff]
theorem min_mc (o : Bool) (a : Int) (f : α → Int) (xs : List α) : bltW .min [.lst o (.int a :: xs.map fun a => .int (f a))] Q = Q (.int (mn (a :: xs.map f))) := by
  rw [map_int, show (D.int a :: (xs.map f).map D.int) = (a :: xs.map f).map D.int from rfl, min_lI]
  exact propext ⟨fun h => h.2, fun h => ⟨by simp, h⟩⟩
theorem max_mc (o : Bool) (a : Int) (f : α → Int) (xs : List α) : bltW .max [.lst o (.int a :: xs.map fun a => .int (f a))] Q = Q (.int (mx (a :: xs.map f))) := by
  rw [map_int, show (D.int a :: (xs.map f).map D.int) = (a :: xs.map f).map D.int from rfl, max_lI]
  exact propext ⟨fun h => h.2, fun h => ⟨by simp, h⟩⟩
theorem sum_mt (f : α → Int) (xs : List α) : bltW .sum [.tup (xs.map fun a => .int (f a))] Q = Q (.int (xs.map f).sum) := by
  rw [a_sumT, map_int, ints_map]
  exact propext ⟨fun ⟨_, e, q⟩ => by cases e; exact q, fun q => ⟨_, rfl, q⟩⟩
theorem sum_m (o : Bool) (f : α → Int) (xs : List α) : bltW .sum [.lst o (xs.map fun a => .int (f a))] Q = Q (.int (xs.map f).sum) := by
  rw [a_sum]
  apply propext
  rw [ints_mapf]
  exact ⟨fun ⟨ns, e, q⟩ => by cases e; exact q, fun q => ⟨_, rfl, q⟩⟩
theorem all_m (o : Bool) (f : α → Bool) (xs : List α) : bltW .all [.lst o (xs.map fun a => .bl (f a))] Q = Q (.bl (xs.all f)) := by
  rw [a_all]
  apply propext
  rw [bls_mapf]
  have : (xs.map f).all id = xs.all f := by rw [List.all_map]; rfl
  exact ⟨fun ⟨ns, e, q⟩ => by cases e; rw [← this]; exact q, fun q => ⟨_, rfl, by rw [this]; exact q⟩⟩
theorem any_m (o : Bool) (f : α → Bool) (xs : List α) : bltW .any [.lst o (xs.map fun a => .bl (f a))] Q = Q (.bl (xs.any f)) := by
  rw [a_any]
  apply propext
  rw [bls_mapf]
  have : (xs.map f).any id = xs.any f := by rw [List.any_map]; rfl
  exact ⟨fun ⟨ns, e, q⟩ => by cases e; rw [← this]; exact q, fun q => ⟨_, rfl, by rw [this]; exact q⟩⟩
theorem rng_m (n : Int) : srcW .rng [.int n] R = ((-(2 ^ 62) ≤ n ∧ n < 2 ^ 62) ∧ R ((List.range n.toNat).map fun i : Nat => .int (i : Int))) := by rw [s_rng, and_assoc]
theorem rng2_m (a b : Int) : srcW .rng [.int a, .int b] R = ((-(2 ^ 62) ≤ a ∧ a < 2 ^ 62 ∧ -(2 ^ 62) ≤ b ∧ b < 2 ^ 62) ∧ R ((List.range (b - a).toNat).map fun i : Nat => .int (a + (i : Int)))) := rfl
theorem zip_m {β : Type} (f : α → D) (g : β → D) : ∀ (xs : List α) (ys : List β), zipD (xs.map f) (ys.map g) = (xs.zip ys).map fun p => .tup [f p.1, g p.2]
  | [], _ => rfl
  | _ :: _, [] => rfl
  | x :: xs, y :: ys => by simp [zipD, zip_m f g xs ys]
theorem enm_m (f : α → D) : ∀ (n : Nat) (xs : List α), enmFrom n (xs.map f) = (xs.zipIdx n).map fun p => .tup [.int (p.2 : Int), f p.1]
  | n, [] => rfl
  | n, x :: xs => by simp [enmFrom, enm_m f (n + 1) xs]
theorem getI_nat [Inhabited α] (xs : List α) (i : Nat) : getI xs (i : Int) = xs.getD i default := by
  unfold getI
  rw [if_pos (by omega)]
  rfl
theorem inb_nat (n i : Nat) : inb n (i : Int) = (i < n) := by
  unfold inb
  apply propext
  omega
end
theorem eqOk_intT (a b : Int) : eqOk (.int a) (.int b) = True := eq_true (eqOk_int a b)
theorem eqOk_blT (a b : Bool) : eqOk (.bl a) (.bl b) = True := eq_true (eqOk_bl a b)
theorem cast_sub1 (a b : Nat) : ((a + b : Nat) : Int) - (a : Int) = (b : Int) := by omega
theorem cast_sub2 (a b : Nat) : ((a + b : Nat) : Int) - (b : Int) = (a : Int) := by omega
theorem e_intN (a b : Int) : eqD (.int a) (.int b) = (a == b) := id rfl
theorem e_blN (a b : Bool) : eqD (.bl a) (.bl b) = (a == b) := id rfl
theorem nc_one (i : Nat) : 1 + (i : Int) = ((1 + i : Nat) : Int) := by omega
theorem nc_suc (i : Nat) : (i : Int) + 1 = ((i + 1 : Nat) : Int) := by omega
theorem nc_pre (i : Nat) : ((1 + i : Nat) : Int) - 1 = (i : Int) := by omega
theorem nc_pre2 (i : Nat) : ((i + 1 : Nat) : Int) - 1 = (i : Int) := by omega
theorem nc_sub (i j : Nat) : ((1 + i : Nat) : Int) - ((1 + j : Nat) : Int) = (i : Int) - (j : Int) := by omega
theorem frs_mapf {α : Type} (f : α → D) (xs : List α) : Wk.frs (xs.map f) = xs.map fun x => Wk.fr (f x) := by
  rw [frs_map, List.map_map]; rfl
/-! ## contracts by functions -/
def pp (pre : List D → Prop) (f : List D → D) : Con := fun ds Q _ => pre ds ∧ Q (f ds)
open Classical in
noncomputable def pz (pre : List D → Prop) (f : List D → D) (z : Err) : Con := fun ds Q Z => if pre ds then Q (f ds) else Z z
theorem mc_pp (pre : List D → Prop) (f : List D → D) (ds : List D) (Q : D → Prop) (Z : Err → Prop) : mc (pp pre f) ds Q Z = (pre ds ∧ Q (f ds)) := propext ⟨fun ⟨_, _, ⟨a, b⟩, c, _⟩ => ⟨a, c _ b⟩, fun h => mc_iff h⟩
theorem mc_pz (pre : List D → Prop) (f : List D → D) (z : Err) (ds : List D) (Q : D → Prop) (Z : Err → Prop) : mc (pz pre f z) ds Q Z = ((pre ds → Q (f ds)) ∧ (¬ pre ds → Z z)) := by
  apply propext
  constructor
  · rintro ⟨Q', Z', c, h1, h2⟩
    unfold pz at c
    constructor
    · intro p
      rw [if_pos p] at c
      exact h1 _ c
    · intro p
      rw [if_neg p] at c
      exact h2 _ c
  · rintro ⟨a, b⟩
    refine mc_iff ?_
    unfold pz
    split
    · exact a ‹_›
    · exact b ‹_›
theorem pz_ok {pre : List D → Prop} {f : List D → D} {z : Err} {ds : List D} {Q : D → Prop} {Z : Err → Prop} (p : pre ds) : mc (pz pre f z) ds Q Z = Q (f ds) := by
  rw [mc_pz]; simp [p]
theorem pz_no {pre : List D → Prop} {f : List D → D} {z : Err} {ds : List D} {Q : D → Prop} {Z : Err → Prop} (p : ¬ pre ds) : mc (pz pre f z) ds Q Z = Z z := by
  rw [mc_pz]; simp [p]
theorem pz_iff {pre : List D → Prop} {f : List D → D} {z : Err} {ds : List D} {Q : D → Prop} {Z : Err → Prop} : pz pre f z ds Q Z ↔ ((pre ds → Q (f ds)) ∧ (¬ pre ds → Z z)) := by
  unfold pz
  by_cases p : pre ds <;> simp [p]
theorem mc_draw (n : Int) (Q : D → Prop) (Z : Err → Prop) : mc cDraw [.hand, .int n] Q Z = draw n fun r => Q (.int r) := by
  apply propext
  constructor
  · rintro ⟨Q', Z', ⟨m, e, h0, h1, h⟩, hq, _⟩
    cases e
    exact ⟨⟨h0, h1⟩, fun r r0 r1 => hq _ (h r r0 r1)⟩
  · rintro ⟨⟨h0, h1⟩, h⟩
    exact mc_iff ⟨n, rfl, h0, h1, h⟩
end Wk
end sec_W20

section sec_W21
set_option Elab.async false
set_option linter.all false
set_option maxRecDepth 100000
set_option maxHeartbeats 8000000
namespace Wk
open PySem PySem.Spec PyProof.Rows L2
/-! ## statements: what is wished may grow -/
structure Post.le (Φ Ψ : Post) : Prop where
  nx : ∀ e, Φ.nx e → Ψ.nx e
  rt : ∀ d e, Φ.rt d e → Ψ.rt d e
  bk : ∀ e, Φ.bk e → Ψ.bk e
  ct : ∀ e, Φ.ct e → Ψ.ct e
  ex : ∀ d e, Φ.ex d e → Ψ.ex d e
mutual
theorem wp_mono (G : Gam) : ∀ (s : S) {env : Env'} {Φ Ψ : Post}, Φ.le Ψ → wp G s env Φ → wp G s env Ψ
  | .asg tg e, env, Φ, Ψ, l, h => by
    simp only [wp] at h ⊢
    exact ev_mono G e (fun d ⟨a, env', b, q⟩ => ⟨a, env', b, l.nx _ q⟩) (fun z q => l.ex _ _ q) h
  | .mov L tg e, env, Φ, Ψ, l, h => by
    simp only [wp] at h ⊢
    exact ev_mono G e (fun d ⟨env', b, q⟩ => ⟨env', b, l.nx _ q⟩) (fun z q => l.ex _ _ q) h
  | .lcs i own tg k src c elt, env, Φ, Ψ, l, h => by
    simp only [wp] at h ⊢
    exact ev_mono G _ (fun d ⟨a, q⟩ => ⟨a, l.nx _ q⟩) (fun z q => l.ex _ _ q) h
  | .par i j a b, env, Φ, Ψ, l, h => by
    simp only [wp] at h ⊢
    exact ev_mono G _ (fun d q => ev_mono G _ (fun d ⟨k1, k2, q⟩ => ⟨k1, k2, l.nx _ q⟩) (fun z q => l.ex _ _ q) q) (fun z q => l.ex _ _ q) h
  | .par3 i j k a b c, env, Φ, Ψ, l, h => by
    simp only [wp] at h ⊢
    exact ev_mono G _ (fun d q => ev_mono G _ (fun d q => ev_mono G _ (fun d ⟨k1, k2, k3, q⟩ => ⟨k1, k2, k3, l.nx _ q⟩) (fun z q => l.ex _ _ q) q) (fun z q => l.ex _ _ q) q) (fun z q => l.ex _ _ q) h
  | .app i e, env, Φ, Ψ, l, h => by
    simp only [wp] at h ⊢
    obtain ⟨xs, e1, e2, h⟩ := h
    exact ⟨xs, e1, e2, ev_mono G _ (fun d ⟨a, q⟩ => ⟨a, l.nx _ q⟩) (fun z q => l.ex _ _ q) h⟩
  | .set i k e, env, Φ, Ψ, l, h => by
    simp only [wp] at h ⊢
    obtain ⟨xs, e1, h⟩ := h
    exact ⟨xs, e1, ev_mono G _ (fun d ⟨a, q⟩ => ⟨a, ev_mono G _ (fun y ⟨j, m, a1, a2, a3, q⟩ => ⟨j, m, a1, a2, a3, l.nx _ q⟩) (fun z q => l.ex _ _ q) q⟩) (fun z q => l.ex _ _ q) h⟩
  | .aug i op e, env, Φ, Ψ, l, h => by
    simp only [wp] at h ⊢
    obtain ⟨x, e1, h⟩ := h
    refine ⟨x, e1, ev_mono G _ (fun d q => ?_) (fun z q => l.ex _ _ q) h⟩
    unfold augW at q ⊢
    split at q <;> first | exact l.nx _ q | exact q.elim
  | .ret e, env, Φ, Ψ, l, h => by
    simp only [wp] at h ⊢
    exact ev_mono G e (fun d ⟨a, q⟩ => ⟨a, l.rt _ _ q⟩) (fun z q => l.ex _ _ q) h
  | .retL L e, env, Φ, Ψ, l, h => by
    simp only [wp] at h ⊢
    exact ev_mono G e (fun d q => l.rt _ _ q) (fun z q => l.ex _ _ q) h
  | .retA e, env, Φ, Ψ, l, h => by
    simp only [wp] at h ⊢
    exact ev_mono G e (fun d q => l.rt _ _ q) (fun z q => l.ex _ _ q) h
  | .movA tg e, env, Φ, Ψ, l, h => by
    simp only [wp] at h ⊢
    exact ev_mono G e (fun d ⟨env', b, q⟩ => ⟨env', b, l.nx _ q⟩) (fun z q => l.ex _ _ q) h
  | .retv i, env, Φ, Ψ, l, h => by
    simp only [wp] at h ⊢
    obtain ⟨d, e1, q⟩ := h
    exact ⟨d, e1, l.rt _ _ q⟩
  | .retN, env, Φ, Ψ, l, h => by
    simp only [wp] at h ⊢
    exact l.rt _ _ h
  | .ife c a b, env, Φ, Ψ, l, h => by
    simp only [wp] at h ⊢
    refine ev_mono G c (fun d ⟨k, e1, q⟩ => ⟨k, e1, ?_⟩) (fun z q => l.ex _ _ q) h
    cases k with
    | true => exact wps_mono G a l q
    | false => exact wps_mono G b l q
  | .whl c a, env, Φ, Ψ, l, h => by
    simp only [wp] at h ⊢
    obtain ⟨I, i0, h⟩ := h
    refine ⟨I, i0, fun m env hi => ev_mono G c (fun d ⟨k, e1, q⟩ => ⟨k, e1, ?_⟩) (fun z q => l.ex _ _ q) (h m env hi)⟩
    cases k with
    | true =>
      refine wps_mono G a ?_ q
      exact ⟨fun e h => h, l.rt, l.nx, fun e h => h, l.ex⟩
    | false => exact l.nx _ q
  | .fr tg k src a, env, Φ, Ψ, l, h => by
    simp only [wp] at h ⊢
    refine evs_mono G src (fun ds q => srcW_mono (fun xs ⟨I, i0, fn, st⟩ => ⟨I, i0, fun e h => l.nx _ (fn e h), fun i d env' hd hi => ?_⟩) q) (fun z q => l.ex _ _ q) h
    obtain ⟨env2, b, w⟩ := st i d env' hd hi
    refine ⟨env2, b, wps_mono G a ?_ w⟩
    exact ⟨fun e h => h, l.rt, l.nx, fun e h => h, l.ex⟩
  | .frL L tg k src a, env, Φ, Ψ, l, h => by
    simp only [wp] at h ⊢
    refine evs_mono G src (fun ds q => srcW_mono (fun xs ⟨I, i0, fn, st⟩ => ⟨I, i0, fun e h => l.nx _ (fn e h), fun i d env' hd hi => ?_⟩) q) (fun z q => l.ex _ _ q) h
    obtain ⟨env2, b, w⟩ := st i d env' hd hi
    refine ⟨env2, b, wps_mono G a ?_ w⟩
    exact ⟨fun e h => h, l.rt, l.nx, fun e h => h, l.ex⟩
  | .expr e, env, Φ, Ψ, l, h => by
    simp only [wp] at h ⊢
    exact ev_mono G e (fun d q => l.nx _ q) (fun z q => l.ex _ _ q) h
  | .rse x, env, Φ, Ψ, l, h => by
    simp only [wp] at h ⊢
    exact l.ex _ _ h
  | .pas, env, Φ, Ψ, l, h => by
    simp only [wp] at h ⊢
    exact l.nx _ h
  | .brk, env, Φ, Ψ, l, h => by
    simp only [wp] at h ⊢
    exact l.bk _ h
  | .cnt, env, Φ, Ψ, l, h => by
    simp only [wp] at h ⊢
    exact l.ct _ h
theorem wps_mono (G : Gam) : ∀ (s : List S) {env : Env'} {Φ Ψ : Post}, Φ.le Ψ → wps G s env Φ → wps G s env Ψ
  | [], env, Φ, Ψ, l, h => by
    simp only [wps] at h ⊢
    exact l.nx _ h
  | s :: ss, env, Φ, Ψ, l, h => by
    simp only [wps] at h ⊢
    refine wp_mono G s ?_ h
    exact ⟨fun e q => wps_mono G ss l q, l.rt, l.bk, l.ct, l.ex⟩
end
/-! ## a walk unrolled -/
def wfor {α : Type} (body : α → Env' → Post → Prop) : List α → Env' → Post → Prop
  | [], env, Φ => Φ.nx env
  | d :: ds, env, Φ => body d env { nx := fun e => wfor body ds e Φ, rt := Φ.rt, bk := Φ.nx, ct := fun e => wfor body ds e Φ, ex := Φ.ex }
/-- one turn -/
def turnW (G : Gam) (tg : Tg) (a : List S) (d : D) (env : Env') (Φ : Post) : Prop := optV (bindT tg (fr d) env) fun env2 => wps G a env2 Φ
theorem wfor_I {G : Gam} {tg : Tg} {a : List S} {xs : List D} {env : Env'} {Φ : Post} : (∃ I : Nat → Env' → Prop, I 0 env ∧ (∀ env', I xs.length env' → Φ.nx env') ∧ ∀ i d env', xs[i]? = some d → I i env' → ∃ env2, bindT tg (fr d) env' = some env2 ∧
      wps G a env2 { nx := I (i + 1), rt := Φ.rt, bk := Φ.nx, ct := I (i + 1), ex := Φ.ex }) = wfor (turnW G tg a) xs env Φ := by
  apply propext
  constructor
  · rintro ⟨I, i0, fn, st⟩
    suffices h : ∀ (zs ys : List D) (e : Env'), xs = ys ++ zs → I ys.length e → wfor (turnW G tg a) zs e Φ from h xs [] env rfl i0
    intro zs
    induction zs with
    | nil =>
      intro ys e he hi
      rw [List.append_nil] at he
      subst he
      exact fn e hi
    | cons x zs ih =>
      intro ys e he hi
      show optV (bindT tg (fr x) e) fun env2 => wps G a env2 { nx := fun e => wfor (turnW G tg a) zs e Φ, rt := Φ.rt, bk := Φ.nx, ct := fun e => wfor (turnW G tg a) zs e Φ, ex := Φ.ex }
      obtain ⟨env2, b, w⟩ := st ys.length x e (by rw [he]; simp) hi
      rw [b]
      show wps G a env2 _
      have n : ∀ e', I (ys.length + 1) e' → wfor (turnW G tg a) zs e' Φ := fun e' h' => ih (ys ++ [x]) e' (by simp [he]) (by simpa using h')
      refine wps_mono G a ?_ w
      exact ⟨n, fun _ _ h => h, fun _ h => h, n, fun _ _ h => h⟩
  · intro h
    refine ⟨fun i env' => wfor (turnW G tg a) (xs.drop i) env' Φ, h, fun env' h' => ?_, fun i d env' hd h' => ?_⟩
    · simpa [wfor] using h'
    · have hi : i < xs.length := by
        rcases Nat.lt_or_ge i xs.length with z | z
        · exact z
        · rw [List.getElem?_eq_none z] at hd; cases hd
      have e : xs.drop i = d :: xs.drop (i + 1) := by
        rw [List.drop_eq_getElem_cons hi]
        rw [List.getElem?_eq_getElem hi] at hd
        cases hd; rfl
      have h' : wfor (turnW G tg a) (xs.drop i) env' Φ := h'
      rw [e] at h'
      have h2 : optV (bindT tg (fr d) env') fun env2 => wps G a env2 { nx := fun e => wfor (turnW G tg a) (xs.drop (i + 1)) e Φ, rt := Φ.rt, bk := Φ.nx, ct := fun e => wfor (turnW G tg a) (xs.drop (i + 1)) e Φ, ex := Φ.ex } := h'
      rw [← optV_eq] at h2
      exact h2
theorem wfor_map {α β : Type} (h : α → β) (body : β → Env' → Post → Prop) (xs : List α) (env : Env') (Φ : Post) : wfor body (xs.map h) env Φ = wfor (fun a => body (h a)) xs env Φ := by
  induction xs generalizing env Φ with
  | nil => rfl
  | cons x xs ih =>
    rw [List.map_cons]
    unfold wfor
    simp only [ih]
theorem wfor_nil {α : Type} (body : α → Env' → Post → Prop) (env : Env') (Φ : Post) : wfor body [] env Φ = Φ.nx env := rfl
theorem wfor_cons {α : Type} (body : α → Env' → Post → Prop) (d : α) (ds : List α) (env : Env') (Φ : Post) : wfor body (d :: ds) env Φ = body d env { nx := fun e => wfor body ds e Φ, rt := Φ.rt, bk := Φ.nx, ct := fun e => wfor body ds e Φ, ex := Φ.ex } := rfl
/-- by an invariant over what has been walked -/
theorem wfor_inv {α : Type} {body : α → Env' → Post → Prop} {xs : List α} {env : Env'} {Φ : Post} (I : List α → Env' → Prop) (h0 : I [] env) (hn : ∀ e, I xs e → Φ.nx e)
    (hs : ∀ ys x zs, xs = ys ++ x :: zs → ∀ e, I ys e → ∀ N : Env' → Prop, (∀ e', I (ys ++ [x]) e' → N e') → body x e { nx := N, rt := Φ.rt, bk := Φ.nx, ct := N, ex := Φ.ex }) : wfor body xs env Φ := by
  suffices h : ∀ (zs ys : List α) (e : Env'), xs = ys ++ zs → I ys e → wfor body zs e Φ from h xs [] env rfl h0
  intro zs
  induction zs with
  | nil =>
    intro ys e he hi
    rw [List.append_nil] at he
    subst he
    exact hn e hi
  | cons x zs ih =>
    intro ys e he hi
    unfold wfor
    exact hs ys x zs he e hi _ fun e' h' => ih (ys ++ [x]) e' (by simp [he]) h'
/-- over a range -/
theorem wfor_rng {body : Nat → Env' → Post → Prop} {n : Nat} {env : Env'} {Φ : Post} (I : Nat → Env' → Prop) (h0 : I 0 env) (hn : ∀ e, I n e → Φ.nx e)
    (hs : ∀ i, i < n → ∀ e, I i e → ∀ N : Env' → Prop, (∀ e', I (i + 1) e' → N e') → body i e { nx := N, rt := Φ.rt, bk := Φ.nx, ct := N, ex := Φ.ex }) : wfor body (List.range n) env Φ := by
  refine wfor_inv (fun ys e => ∃ i, i ≤ n ∧ ys = List.range i ∧ I i e) ⟨0, by omega, rfl, h0⟩ (fun e ⟨i, hi, e1, h⟩ => ?_) fun ys x zs he e ⟨i, hi, e1, h⟩ N hN => ?_
  · have : n = i := by
      have := congrArg List.length e1
      simpa using this
    subst this
    exact hn e h
  · subst e1
    have hl := congrArg List.length he
    simp at hl
    have hx : x = i := by
      have := congrArg (·[i]?) he
      simp [show i < n by omega] at this
      exact this.symm
    subst hx
    exact hs x (by omega) e h N fun e' h' => hN e' ⟨x + 1, by omega, by rw [List.range_succ], h'⟩
/-- a state led along -/
theorem wfor_fold {α β : Type} {body : α → Env' → Post → Prop} {Φ : Post} (g : β → Env' → Prop) (f : β → α → β) : ∀ {xs : List α} {b : β} {env : Env'}, g b env → (∀ x ∈ xs, ∀ b e, g b e → ∀ N : Env' → Prop, (∀ e', g (f b x) e' → N e') → body x e { nx := N, rt := Φ.rt, bk := Φ.nx, ct := N, ex := Φ.ex }) →
    (∀ e, g (xs.foldl f b) e → Φ.nx e) → wfor body xs env Φ
  | [], b, env, h0, _, hn => hn env h0
  | x :: xs, b, env, h0, hs, hn => by
    unfold wfor
    exact hs x (by simp) b env h0 _ fun e' h' => wfor_fold g f h' (fun y hy => hs y (by simp [hy])) hn
/-! ## statements without «there is» -/
/-- a while, as it is -/
def whlW (G : Gam) (c : E) (a : List S) (env : Env') (Φ : Post) : Prop := wp G (.whl c a) env Φ
section
variable (G : Gam) (env : Env') (Φ : Post)
theorem w_asg (tg : Tg) (e : E) : wp G (.asg tg e) env Φ = ev G e env (fun d => cl d = true ∧ optV (bindT tg d env) Φ.nx) (fun z => Φ.ex z env) := by
  simp only [wp, ← optV_eq]
theorem w_mov (L : List Nat) (tg : Tg) (e : E) : wp G (.mov L tg e) env Φ = ev G e (restr L 0 env) (fun d => optV (bindT tg d (frzL L 0 env)) Φ.nx) (fun z => Φ.ex z (frzL L 0 env)) := by
  simp only [wp, ← optV_eq]
theorem w_lcs (i : Nat) (own : List (Str × Nat)) (tg : Tg) (k : It) (src : List E) (c : Option E) (elt : E) : wp G (.lcs i own tg k src c elt) env Φ = ev G (.lc own tg k src c elt) env (fun d => cl d = true ∧ Φ.nx (env.set i (some d))) (fun z => Φ.ex z env) := by
  simp only [wp, lcE]
theorem w_par (i j : Nat) (a b : E) : wp G (.par i j a b) env Φ = ev G a env (fun x => ev G b env (fun y => cl x = true ∧ cl y = true ∧ Φ.nx ((env.set i (some x)).set j (some y))) (fun z => Φ.ex z env)) (fun z => Φ.ex z env) := by simp only [wp]
theorem w_par3 (i j l : Nat) (a b c : E) : wp G (.par3 i j l a b c) env Φ = ev G a env (fun x => ev G b env (fun y => ev G c env (fun z => cl x = true ∧ cl y = true ∧ cl z = true ∧ Φ.nx (((env.set i (some x)).set j (some y)).set l (some z))) (fun z => Φ.ex z env)) (fun z => Φ.ex z env)) (fun z => Φ.ex z env) := by simp only [wp]
theorem w_app (i : Nat) (e : E) : wp G (.app i e) env Φ = ownV env[i]? fun xs => xs.length < sizeLine ∧ ev G e env (fun d => cl d = true ∧ Φ.nx (env.set i (some (.lst true (xs ++ [d]))))) (fun z => Φ.ex z env) := by
  simp only [wp, ← ownV_eq]
theorem w_set (i : Nat) (k e : E) : wp G (.set i k e) env Φ = ownV env[i]? fun xs => ev G e env (fun d => cl d = true ∧ ev G k env (fun y => intV y fun j => optV (ixN xs.length j) fun m => (G.pin = true → m ≠ 0) ∧ Φ.nx (env.set i (some (.lst true (xs.set m d))))) (fun z => Φ.ex z env)) (fun z => Φ.ex z env) := by
  simp only [wp, ← ownV_eq, ← intV_eq, ← optV_eq]
  congr 1
  funext xs
  congr 2
  funext d
  congr 2
  funext y
  apply propext
  constructor
  · rintro ⟨j, m, h1, h2, h3⟩
    exact ⟨j, h1, m, h2, h3⟩
  · rintro ⟨j, h1, m, h2, h3⟩
    exact ⟨j, m, h1, h2, h3⟩
theorem w_aug (i : Nat) (op : Operator) (e : E) : wp G (.aug i op e) env Φ = getV env[i]? fun x => ev G e env (fun y => augW op x y fun d => Φ.nx (env.set i (some d))) (fun z => Φ.ex z env) := by
  simp only [wp, ← getV_eq]
theorem w_ret (e : E) : wp G (.ret e) env Φ = ev G e env (fun d => cl d = true ∧ Φ.rt d env) (fun z => Φ.ex z env) := by simp only [wp]
theorem w_retL (L : List Nat) (e : E) : wp G (.retL L e) env Φ = ev G e (restr L 0 env) (fun d => Φ.rt d (frzL L 0 env)) (fun z => Φ.ex z (frzL L 0 env)) := by simp only [wp]
theorem w_retA (e : E) : wp G (.retA e) env Φ = ev G e env (fun d => Φ.rt d (env.map fun _ => none)) (fun z => Φ.ex z (env.map fun _ => none)) := by simp only [wp]
theorem w_movA (tg : Tg) (e : E) : wp G (.movA tg e) env Φ = ev G e env (fun d => optV (bindT tg d (env.map (Option.map fr))) Φ.nx) (fun z => Φ.ex z (env.map (Option.map fr))) := by
  simp only [wp, ← optV_eq]
theorem w_retv (i : Nat) : wp G (.retv i) env Φ = getV env[i]? fun d => Φ.rt d (env.set i none) := by
  simp only [wp, ← getV_eq]
theorem w_retN : wp G .retN env Φ = Φ.rt .non env := by simp only [wp]
theorem w_ife (c : E) (a b : List S) : wp G (.ife c a b) env Φ = ev G c env (fun d => optV (truthD d) fun k => if k = true then wps G a env Φ else wps G b env Φ) (fun z => Φ.ex z env) := by
  simp only [wp, ← optV_eq]
theorem w_whl (c : E) (a : List S) : wp G (.whl c a) env Φ = whlW G c a env Φ := rfl
theorem w_fr (tg : Tg) (k : It) (src : List E) (a : List S) : wp G (.fr tg k src a) env Φ = evs G src env (fun ds => srcW k ds fun xs => wfor (turnW G tg a) xs env Φ) (fun z => Φ.ex z env) := by
  simp only [wp, wfor_I]
theorem w_frL (L : List Nat) (tg : Tg) (k : It) (src : List E) (a : List S) : wp G (.frL L tg k src a) env Φ = evs G src (restr L 0 env) (fun ds => srcW k ds fun xs => wfor (turnW G tg a) xs (frzL L 0 env) Φ) (fun z => Φ.ex z (frzL L 0 env)) := by
  simp only [wp, wfor_I]
theorem w_expr (e : E) : wp G (.expr e) env Φ = ev G e env (fun _ => Φ.nx env) (fun z => Φ.ex z env) := by simp only [wp]
theorem w_rse (x : Str) : wp G (.rse x) env Φ = Φ.ex ⟨x, none⟩ env := by simp only [wp]
theorem w_pas : wp G .pas env Φ = Φ.nx env := by simp only [wp]
theorem w_brk : wp G .brk env Φ = Φ.bk env := by simp only [wp]
theorem w_cnt : wp G .cnt env Φ = Φ.ct env := by simp only [wp]
theorem ws_nil : wps G [] env Φ = Φ.nx env := by simp only [wps]
theorem ws_cons (s : S) (ss : List S) : wps G (s :: ss) env Φ = wp G s env { nx := fun env' => wps G ss env' Φ, rt := Φ.rt, bk := Φ.bk, ct := Φ.ct, ex := Φ.ex } := by simp only [wps]
/-- a while by a measure -/
theorem whl_I {G : Gam} {env : Env'} {Φ : Post} {c : E} {a : List S} (I : Nat → Env' → Prop) (m : Nat) (h0 : I m env)
    (h : ∀ m env, I m env → ev G c env (fun d => optV (truthD d) fun k => if k = true then wps G a env { nx := fun env' => ∃ m', m' < m ∧ I m' env', rt := Φ.rt, bk := Φ.nx, ct := fun env' => ∃ m', m' < m ∧ I m' env', ex := Φ.ex } else Φ.nx env) (fun z => Φ.ex z env)) : whlW G c a env Φ := by
  unfold whlW
  simp only [wp]
  refine ⟨I, ⟨m, h0⟩, fun m env hi => ?_⟩
  have := h m env hi
  simp only [← optV_eq] at this
  exact this
end
end Wk
end sec_W21

section sec_T71
set_option Elab.async false
set_option linter.all false
set_option maxRecDepth 100000
set_option maxHeartbeats 0
namespace T71
open PySem PySem.Spec PyProof.Rows L2 Wk
def top (i : Nat) : Stmt := PySem.Challenge.pw_workhall_k71_whole_closed_and_shaped_cur.main.body.getD i (.Pass ⟨0, 0, 0, 0⟩)
def nmL : List Str := ["is_integer", "is_within", "is_curve", "check_curves", "spread", "bucket", "served_at", "is_bounded", "least_bound", "closed_curve", "shaped", "_law_hand", "_law_draw", "_law_any", "_law_is", "_law_curve", "_law_spread", "_law_is_no_more", "_law_said", "_law_closed", "_law_is_closed_right", "_law_is_shaped_right", "_law_is_right", "law"]
def arL : List Nat := [1, 3, 1, 2, 2, 3, 3, 2, 1, 1, 2, 1, 2, 2, 2, 3, 2, 2, 1, 1, 2, 3, 1, 1]
def clsL : List Str := ["WorkError", "NoNumber", "NoCurve"]
def conF (x : Str) : Option Int := if x = ("MOST" : Str) then some 1000000 else if x = ("MOST_LONG" : Str) then some 60 else none
def snL : List Str := ["_law_said"]
abbrev GG (C : Nat → Con) (k : Nat) (S : Nat → Except Err D → (D → Prop) → Prop) : Gam := ⟨C, fun i => nmL.getD i "", fun i => arL.getD i 0, conF, false, k, fun i => snL.getD i "", 1, S, 24⟩
abbrev GP (C : Nat → Con) (k : Nat) (S : Nat → Except Err D → (D → Prop) → Prop) : Gam := ⟨C, fun i => nmL.getD i "", fun i => arL.getD i 0, conF, true, k, fun i => snL.getD i "", 0, S, 0⟩
def N_is_integer : List Str := ["thing"]
def s_is_integer : List S := [.retA (.and [(.isi (.var 0) .int), (.not (.isi (.var 0) .bool))])]
theorem k_is_integer (C : Nat → Con) (k : Nat) (S : Nat → Except Err D → (D → Prop) → Prop) : chkSs (GG C k S) (0, false, false) N_is_integer clsL (defScope (top 1)) s_is_integer (defBody (top 1)) = true := by kernel_rfl
theorem f_is_integer : FnScope N_is_integer ["thing"] (defScope (top 1)) := ⟨rfl, rfl, rfl, by decide +kernel, rfl, by decide +kernel, by decide +kernel⟩
def N_is_within : List Str := ["thing", "least", "most"]
def s_is_within : List S := [.retA (.and [(.call 0 [(.var 0)]), (.chain .LtE .LtE (.var 1) (.var 0) (.var 2))])]
theorem k_is_within (C : Nat → Con) (k : Nat) (S : Nat → Except Err D → (D → Prop) → Prop) : chkSs (GG C k S) (1, false, false) N_is_within clsL (defScope (top 2)) s_is_within (defBody (top 2)) = true := by kernel_rfl
theorem f_is_within : FnScope N_is_within ["thing", "least", "most"] (defScope (top 2)) := ⟨rfl, rfl, rfl, by decide +kernel, rfl, by decide +kernel, by decide +kernel⟩
def N_is_curve : List Str := ["thing", "one", "other"]
def s_is_curve : List S := [.ife (.or [(.not (.isi (.var 0) .tuple)), (.not (.chain .LtE .LtE (.int 1) (.blt .len [(.var 0)]) (.glo "MOST_LONG")))]) [.retA (.bl false)] [],
  .ife (.not (.blt .all [(.lc [("one", 1)] (.name 1) .seq [(.var 0)] none (.call 1 [(.var 1), (.int 0), (.glo "MOST")]))])) [.retA (.bl false)] [],
  .retA (.blt .all [(.lc [("one", 1), ("other", 2)] (.tup [(.name 1), (.name 2)]) .zip [(.var 0), (.sl (.var 0) (some (.int 1)) none)] none (.cmp .LtE (.var 1) (.var 2)))])]
theorem k_is_curve (C : Nat → Con) (k : Nat) (S : Nat → Except Err D → (D → Prop) → Prop) : chkSs (GG C k S) (2, false, false) N_is_curve clsL (defScope (top 10)) s_is_curve (defBody (top 10)) = true := by kernel_rfl
theorem f_is_curve : FnScope N_is_curve ["thing"] (defScope (top 10)) := ⟨rfl, rfl, rfl, by decide +kernel, rfl, by decide +kernel, by decide +kernel⟩
def N_check_curves : List Str := ["one", "other"]
def s_check_curves : List S := [.ife (.or [(.not (.call 2 [(.var 0)])), (.not (.call 2 [(.var 1)])), (.cmp .NotEq (.blt .len [(.var 0)]) (.blt .len [(.var 1)]))]) [.rse "NoCurve"] []]
theorem k_check_curves (C : Nat → Con) (k : Nat) (S : Nat → Except Err D → (D → Prop) → Prop) : chkSs (GG C k S) (3, false, false) N_check_curves clsL (defScope (top 11)) s_check_curves (defBody (top 11)) = true := by kernel_rfl
theorem f_check_curves : FnScope N_check_curves ["one", "other"] (defScope (top 11)) := ⟨rfl, rfl, rfl, by decide +kernel, rfl, by decide +kernel, by decide +kernel⟩
def N_spread : List Str := ["one", "other", "hour", "at"]
def s_spread : List S := [.expr (.call 3 [(.var 0), (.var 1)]),
  .retA (.blt .tuple [(.lc [("hour", 2)] (.name 2) .rng [(.blt .len [(.var 0)])] none (.blt .min [(.lc [("at", 3)] (.name 3) .rng [(.bin .Add (.var 2) (.int 1))] none (.bin .Add (.idx (.var 0) (.var 3)) (.idx (.var 1) (.bin .Sub (.var 2) (.var 3)))))]))])]
theorem k_spread (C : Nat → Con) (k : Nat) (S : Nat → Except Err D → (D → Prop) → Prop) : chkSs (GG C k S) (4, false, false) N_spread clsL (defScope (top 12)) s_spread (defBody (top 12)) = true := by kernel_rfl
theorem f_spread : FnScope N_spread ["one", "other"] (defScope (top 12)) := ⟨rfl, rfl, rfl, by decide +kernel, rfl, by decide +kernel, by decide +kernel⟩
def N_bucket : List Str := ["burst", "rate", "hours", "hour"]
def s_bucket : List S := [.ife (.or [(.not (.call 1 [(.var 0), (.int 0), (.int 1000)])), (.not (.call 1 [(.var 1), (.int 0), (.int 1000)])), (.not (.call 1 [(.var 2), (.int 1), (.glo "MOST_LONG")]))]) [.rse "NoNumber"] [],
  .retA (.blt .tuple [(.lc [("hour", 3)] (.name 3) .rng [(.var 2)] none (.ite (.cmp .Eq (.var 3) (.int 0)) (.int 0) (.bin .Add (.var 0) (.bin .Mult (.var 1) (.var 3)))))])]
theorem k_bucket (C : Nat → Con) (k : Nat) (S : Nat → Except Err D → (D → Prop) → Prop) : chkSs (GG C k S) (5, false, false) N_bucket clsL (defScope (top 13)) s_bucket (defBody (top 13)) = true := by kernel_rfl
theorem f_bucket : FnScope N_bucket ["burst", "rate", "hours"] (defScope (top 13)) := ⟨rfl, rfl, rfl, by decide +kernel, rfl, by decide +kernel, by decide +kernel⟩
def N_served_at : List Str := ["late", "rate", "hours", "hour"]
def s_served_at : List S := [.ife (.or [(.not (.call 1 [(.var 0), (.int 0), (.glo "MOST_LONG")])), (.not (.call 1 [(.var 1), (.int 0), (.int 1000)])), (.not (.call 1 [(.var 2), (.int 1), (.glo "MOST_LONG")]))]) [.rse "NoNumber"] [],
  .retA (.blt .tuple [(.lc [("hour", 3)] (.name 3) .rng [(.var 2)] none (.bin .Mult (.var 1) (.blt .max [(.int 0), (.bin .Sub (.var 3) (.var 0))])))])]
theorem k_served_at (C : Nat → Con) (k : Nat) (S : Nat → Except Err D → (D → Prop) → Prop) : chkSs (GG C k S) (6, false, false) N_served_at clsL (defScope (top 14)) s_served_at (defBody (top 14)) = true := by kernel_rfl
theorem f_served_at : FnScope N_served_at ["late", "rate", "hours"] (defScope (top 14)) := ⟨rfl, rfl, rfl, by decide +kernel, rfl, by decide +kernel, by decide +kernel⟩
def N_is_bounded : List Str := ["comes", "curve", "at", "hour"]
def s_is_bounded : List S := [.expr (.call 3 [(.var 0), (.var 1)]),
  .fr (.name 2) .rng [(.blt .len [(.var 0)])] [.ife (.blt .any [(.lc [("hour", 3)] (.name 3) .rng [(.var 2), (.blt .len [(.var 0)])] none (.cmp .Gt (.bin .Sub (.idx (.var 0) (.var 3)) (.idx (.var 0) (.var 2))) (.idx (.var 1) (.bin .Sub (.var 3) (.var 2)))))]) [.retA (.bl false)] []],
  .retA (.bl true)]
theorem k_is_bounded (C : Nat → Con) (k : Nat) (S : Nat → Except Err D → (D → Prop) → Prop) : chkSs (GG C k S) (7, false, false) N_is_bounded clsL (defScope (top 15)) s_is_bounded (defBody (top 15)) = true := by kernel_rfl
theorem f_is_bounded : FnScope N_is_bounded ["comes", "curve"] (defScope (top 15)) := ⟨rfl, rfl, rfl, by decide +kernel, rfl, by decide +kernel, by decide +kernel⟩
def N_least_bound : List Str := ["comes", "long", "size", "at"]
def s_least_bound : List S := [.expr (.call 3 [(.var 0), (.var 0)]),
  .asg (.name 1) (.blt .len [(.var 0)]),
  .retA (.blt .tuple [(.lc [("size", 2)] (.name 2) .rng [(.var 1)] none (.blt .max [(.lc [("at", 3)] (.name 3) .rng [(.bin .Sub (.var 1) (.var 2))] none (.bin .Sub (.idx (.var 0) (.bin .Add (.var 3) (.var 2))) (.idx (.var 0) (.var 3))))]))])]
theorem k_least_bound (C : Nat → Con) (k : Nat) (S : Nat → Except Err D → (D → Prop) → Prop) : chkSs (GG C k S) (8, false, false) N_least_bound clsL (defScope (top 16)) s_least_bound (defBody (top 16)) = true := by kernel_rfl
theorem f_least_bound : FnScope N_least_bound ["comes"] (defScope (top 16)) := ⟨rfl, rfl, rfl, by decide +kernel, rfl, by decide +kernel, by decide +kernel⟩
def N_closed_curve : List Str := ["curve", "found"]
def s_closed_curve : List S := [.expr (.call 3 [(.var 0), (.var 0)]),
  .asg (.name 1) (.bin .Add (.tup [(.int 0)]) (.sl (.var 0) (some (.int 1)) none)),
  .whl (.cmp .NotEq (.call 4 [(.var 1), (.var 1)]) (.var 1)) [.asg (.name 1) (.call 4 [(.var 1), (.var 1)])],
  .retv 1]
theorem k_closed_curve (C : Nat → Con) (k : Nat) (S : Nat → Except Err D → (D → Prop) → Prop) : chkSs (GG C k S) (9, false, false) N_closed_curve clsL (defScope (top 18)) s_closed_curve (defBody (top 18)) = true := by kernel_rfl
theorem f_closed_curve : FnScope N_closed_curve ["curve"] (defScope (top 18)) := ⟨rfl, rfl, rfl, by decide +kernel, rfl, by decide +kernel, by decide +kernel⟩
def N_shaped : List Str := ["comes", "curve"]
def s_shaped : List S := [.expr (.call 3 [(.var 0), (.var 1)]),
  .ife (.or [(.cmp .NotEq (.idx (.var 1) (.int 0)) (.int 0)), (.cmp .NotEq (.call 9 [(.var 1)]) (.var 1))]) [.rse "NoCurve"] [],
  .retA (.call 4 [(.var 0), (.var 1)])]
theorem k_shaped (C : Nat → Con) (k : Nat) (S : Nat → Except Err D → (D → Prop) → Prop) : chkSs (GG C k S) (10, false, false) N_shaped clsL (defScope (top 17)) s_shaped (defBody (top 17)) = true := by kernel_rfl
theorem f_shaped : FnScope N_shaped ["comes", "curve"] (defScope (top 17)) := ⟨rfl, rfl, rfl, by decide +kernel, rfl, by decide +kernel, by decide +kernel⟩
def N__law_hand : List Str := ["script", "cells", "cell"]
def s__law_hand : List S := [.lcs 1 [("cell", 2)] (.name 2) .seq [(.sl (.var 0) none (some (.int 63)))] none (.blt .abs [(.blt .int [(.var 2)])]),
  .retA (.lst [(.var 1), (.int 0), (.int 0), (.bin .Add (.int 227) (.bin .Mult (.int 7) (.blt .len [(.var 1)]))), (.int 0)])]
theorem k__law_hand (C : Nat → Con) (k : Nat) (S : Nat → Except Err D → (D → Prop) → Prop) : chkSs (GG C k S) (11, false, false) N__law_hand clsL (defScope (top 20)) s__law_hand (defBody (top 20)) = true := by kernel_rfl
theorem f__law_hand : FnScope N__law_hand ["script"] (defScope (top 20)) := ⟨rfl, rfl, rfl, by decide +kernel, rfl, by decide +kernel, by decide +kernel⟩
def N__law_draw : List Str := ["hand", "many", "number", "cell", "digit"]
def s__law_draw : List S := [.ife (.and [(.cmp .Eq (.idx (.var 0) (.int 2)) (.int 0)), (.cmp .Lt (.idx (.var 0) (.int 1)) (.blt .len [(.idx (.var 0) (.int 0))]))]) [.asg (.name 3) (.idx (.idx (.var 0) (.int 0)) (.idx (.var 0) (.int 1))),
  .set 0 (.int 1) (.bin .Add (.idx (.var 0) (.int 1)) (.int 1)),
  .set 0 (.int 3) (.bin .Mod (.blt .int [(.bin .Add (.bin .Add (.bin .Mult (.idx (.var 0) (.int 3)) (.int 69621)) (.bin .Mult (.var 3) (.int 48271))) (.int 17))]) (.int 2147483629)),
  .ife (.cmp .GtE (.var 3) (.bin .Pow (.int 10) (.int 18))) [.set 0 (.int 2) (.var 3)] []] [],
  .ife (.cmp .Gt (.idx (.var 0) (.int 2)) (.int 0)) [.asg (.name 4) (.bin .Mod (.blt .int [(.idx (.var 0) (.int 2))]) (.var 1)),
  .set 0 (.int 2) (.bin .FloorDiv (.idx (.var 0) (.int 2)) (.var 1)),
  .retv 4] [],
  .set 0 (.int 4) (.bin .Add (.idx (.var 0) (.int 4)) (.int 1)),
  .asg (.name 2) (.bin .Mod (.blt .int [(.bin .Mult (.blt .int [(.bin .Add (.idx (.var 0) (.int 3)) (.bin .Mult (.int 7919) (.idx (.var 0) (.int 4))))]) (.int 40692))]) (.int 2147483647)),
  .asg (.name 2) (.bin .Mod (.blt .int [(.bin .Mult (.var 2) (.bin .Add (.bin .FloorDiv (.var 2) (.int 1009)) (.int 69621)))]) (.int 2147483647)),
  .asg (.name 2) (.bin .Mod (.blt .int [(.bin .Mult (.var 2) (.bin .Add (.bin .FloorDiv (.var 2) (.int 2003)) (.int 40014)))]) (.int 2147483563)),
  .ret (.bin .Mod (.blt .int [(.bin .FloorDiv (.var 2) (.int 16))]) (.var 1))]
theorem k__law_draw (C : Nat → Con) (k : Nat) (S : Nat → Except Err D → (D → Prop) → Prop) : chkSs (GP C k S) (0, false, false) N__law_draw clsL (defScope (top 21)) s__law_draw (defBody (top 21)) = true := by kernel_rfl
theorem f__law_draw : FnScope N__law_draw ["hand", "many"] (defScope (top 21)) := ⟨rfl, rfl, rfl, by decide +kernel, rfl, by decide +kernel, by decide +kernel⟩
def N__law_any : List Str := ["hand", "some"]
def s__law_any : List S := [.retA (.idx (.var 1) (.call 12 [(.var 0), (.blt .len [(.var 1)])]))]
theorem k__law_any (C : Nat → Con) (k : Nat) (S : Nat → Except Err D → (D → Prop) → Prop) : chkSs (GG C k S) (13, false, false) N__law_any clsL (defScope (top 22)) s__law_any (defBody (top 22)) = true := by kernel_rfl
theorem f__law_any : FnScope N__law_any ["hand", "some"] (defScope (top 22)) := ⟨rfl, rfl, rfl, by decide +kernel, rfl, by decide +kernel, by decide +kernel⟩
def N__law_is : List Str := ["thing", "due", "one", "other"]
def s__law_is : List S := [.ife (.or [(.isi (.var 1) .tuple), (.isi (.var 1) .list)]) [.ife (.or [(.cmp .NotEq (.isi (.var 1) .tuple) (.isi (.var 0) .tuple)), (.cmp .NotEq (.isi (.var 1) .list) (.isi (.var 0) .list))]) [.retA (.bl false)] [],
  .retA (.and [(.cmp .Eq (.blt .len [(.var 0)]) (.blt .len [(.var 1)])), (.blt .all [(.lc [("one", 2), ("other", 3)] (.tup [(.name 2), (.name 3)]) .zip [(.var 0), (.var 1)] none (.call 14 [(.var 2), (.var 3)]))])])] [],
  .ife (.or [(.cmp .Is (.var 1) .non), (.cmp .Is (.var 0) .non)]) [.retA (.and [(.cmp .Is (.var 1) .non), (.cmp .Is (.var 0) .non)])] [],
  .ife (.or [(.isi (.var 1) .bool), (.isi (.var 0) .bool)]) [.retA (.and [(.isi (.var 1) .bool), (.isi (.var 0) .bool), (.cmp .Eq (.var 0) (.var 1))])] [],
  .ife (.or [(.isi (.var 1) .str), (.isi (.var 0) .str)]) [.retA (.and [(.isi (.var 1) .str), (.isi (.var 0) .str), (.cmp .Eq (.var 0) (.var 1))])] [],
  .retA (.and [(.isi (.var 0) .int), (.cmp .Eq (.var 0) (.var 1))])]
theorem k__law_is (C : Nat → Con) (k : Nat) (S : Nat → Except Err D → (D → Prop) → Prop) : chkSs (GG C k S) (15, false, false) N__law_is clsL (defScope (top 23)) s__law_is (defBody (top 23)) = true := by kernel_rfl
theorem f__law_is : FnScope N__law_is ["thing", "due"] (defScope (top 23)) := ⟨rfl, rfl, rfl, by decide +kernel, rfl, by decide +kernel, by decide +kernel⟩
def N__law_curve : List Str := ["hand", "hours", "most", "hour", "found", "here"]
def s__law_curve : List S := [.par 4 5 (.lst []) (.ite (.cmp .Eq (.call 12 [(.var 0), (.int 3)]) (.int 0)) (.call 12 [(.var 0), (.var 2)]) (.int 0)),
  .fr (.name 3) .rng [(.var 1)] [.app 4 (.var 5),
  .asg (.name 5) (.bin .Add (.var 5) (.call 13 [(.var 0), (.lst [(.int 0), (.int 0), (.int 1), (.int 2), (.call 12 [(.var 0), (.var 2)])])]))],
  .retA (.blt .tuple [(.var 4)])]
theorem k__law_curve (C : Nat → Con) (k : Nat) (S : Nat → Except Err D → (D → Prop) → Prop) : chkSs (GG C k S) (15, false, false) N__law_curve clsL (defScope (top 24)) s__law_curve (defBody (top 24)) = true := by kernel_rfl
theorem f__law_curve : FnScope N__law_curve ["hand", "hours", "most"] (defScope (top 24)) := ⟨rfl, rfl, rfl, by decide +kernel, rfl, by decide +kernel, by decide +kernel⟩
def N__law_spread : List Str := ["one", "other", "found", "hour", "at"]
def s__law_spread : List S := [.asg (.name 2) (.lst []),
  .fr (.name 3) .rng [(.blt .len [(.var 0)])] [.app 2 (.blt .min [(.lc [("at", 4)] (.name 4) .rng [(.bin .Add (.var 3) (.int 1))] none (.bin .Add (.idx (.var 0) (.var 4)) (.idx (.var 1) (.bin .Sub (.var 3) (.var 4)))))])],
  .retA (.blt .tuple [(.var 2)])]
theorem k__law_spread (C : Nat → Con) (k : Nat) (S : Nat → Except Err D → (D → Prop) → Prop) : chkSs (GG C k S) (16, false, false) N__law_spread clsL (defScope (top 25)) s__law_spread (defBody (top 25)) = true := by kernel_rfl
theorem f__law_spread : FnScope N__law_spread ["one", "other"] (defScope (top 25)) := ⟨rfl, rfl, rfl, by decide +kernel, rfl, by decide +kernel, by decide +kernel⟩
def N__law_is_no_more : List Str := ["one", "other", "a", "b"]
def s__law_is_no_more : List S := [.retA (.blt .all [(.lc [("a", 2), ("b", 3)] (.tup [(.name 2), (.name 3)]) .zip [(.var 0), (.var 1)] none (.cmp .LtE (.var 2) (.var 3)))])]
theorem k__law_is_no_more (C : Nat → Con) (k : Nat) (S : Nat → Except Err D → (D → Prop) → Prop) : chkSs (GG C k S) (17, false, false) N__law_is_no_more clsL (defScope (top 26)) s__law_is_no_more (defBody (top 26)) = true := by kernel_rfl
theorem f__law_is_no_more : FnScope N__law_is_no_more ["one", "other"] (defScope (top 26)) := ⟨rfl, rfl, rfl, by decide +kernel, rfl, by decide +kernel, by decide +kernel⟩
-- _law_said: by hand (Try)
def N__law_said : List Str := ["call", "found", "error"]
def N__law_closed : List Str := ["curve", "found", "hour", "at"]
def s__law_closed : List S := [.asg (.name 1) (.lst [(.int 0)]),
  .fr (.name 2) .rng [(.int 1), (.blt .len [(.var 0)])] [.app 1 (.blt .min [(.bin .Add (.lst [(.idx (.var 0) (.var 2))]) (.lc [("at", 3)] (.name 3) .rng [(.int 1), (.var 2)] none (.bin .Add (.idx (.var 1) (.var 3)) (.idx (.var 1) (.bin .Sub (.var 2) (.var 3))))))])],
  .retA (.blt .tuple [(.var 1)])]
theorem k__law_closed (C : Nat → Con) (k : Nat) (S : Nat → Except Err D → (D → Prop) → Prop) : chkSs (GG C k S) (19, false, false) N__law_closed clsL (defScope (top 28)) s__law_closed (defBody (top 28)) = true := by kernel_rfl
theorem f__law_closed : FnScope N__law_closed ["curve"] (defScope (top 28)) := ⟨rfl, rfl, rfl, by decide +kernel, rfl, by decide +kernel, by decide +kernel⟩
def N__law_is_closed_right : List Str := ["hand", "curve", "low", "here", "told", "due", "number", "hour", "a", "b"]
def s__law_is_closed_right : List S := [.par 4 5 (.call 9 [(.var 1)]) (.call 19 [(.var 1)]),
  .ife (.or [(.not (.call 14 [(.var 4), (.var 5)])), (.cmp .NotEq (.call 4 [(.var 4), (.var 4)]) (.var 4)), (.cmp .NotEq (.call 9 [(.var 4)]) (.var 4))]) [.retA (.bl false)] [],
  .ife (.or [(.not (.call 17 [(.var 4), (.var 1)])), (.not (.blt .all [(.lc [("a", 8), ("b", 9)] (.tup [(.name 8), (.name 9)]) .zip [(.var 4), (.sl (.var 4) (some (.int 1)) none)] none (.cmp .LtE (.var 8) (.var 9)))]))]) [.retA (.bl false)] [],
  .asg (.name 2) (.blt .tuple [(.lc [("number", 6)] (.name 6) .seq [(.var 1)] none (.blt .max [(.int 0), (.bin .Sub (.var 6) (.call 12 [(.var 0), (.int 4)]))]))]),
  .asg (.name 2) (.blt .tuple [(.lc [("hour", 7)] (.name 7) .rng [(.blt .len [(.var 2)])] none (.blt .max [(.sl (.var 2) none (some (.bin .Add (.var 7) (.int 1))))]))]),
  .ife (.not (.call 17 [(.call 9 [(.var 2)]), (.var 4)])) [.retA (.bl false)] [],
  .asg (.name 3) (.call 8 [(.call 15 [(.var 0), (.blt .len [(.var 1)]), (.int 5)])]),
  .retA (.or [(.not (.call 17 [(.var 3), (.var 1)])), (.call 17 [(.var 3), (.var 4)])])]
theorem k__law_is_closed_right (C : Nat → Con) (k : Nat) (S : Nat → Except Err D → (D → Prop) → Prop) : chkSs (GG C k S) (20, false, false) N__law_is_closed_right clsL (defScope (top 29)) s__law_is_closed_right (defBody (top 29)) = true := by kernel_rfl
theorem f__law_is_closed_right : FnScope N__law_is_closed_right ["hand", "curve"] (defScope (top 29)) := ⟨rfl, rfl, rfl, by decide +kernel, rfl, by decide +kernel, by decide +kernel⟩
def N__law_is_shaped_right : List Str := ["hand", "comes", "curve", "told", "turn", "low", "number", "hour"]
def s__law_is_shaped_right : List S := [.asg (.name 3) (.call 10 [(.var 1), (.var 2)]),
  .ife (.or [(.not (.call 14 [(.var 3), (.call 16 [(.var 1), (.var 2)])])), (.cmp .IsNot (.call 7 [(.var 3), (.var 2)]) (.bl true))]) [.retA (.bl false)] [],
  .ife (.or [(.not (.call 17 [(.var 3), (.var 1)])), (.cmp .NotEq (.call 10 [(.var 3), (.var 2)]) (.var 3))]) [.retA (.bl false)] [],
  .ife (.cmp .NotEq (.call 7 [(.var 1), (.var 2)]) (.cmp .Eq (.var 3) (.var 1))) [.retA (.bl false)] [],
  .fr (.name 4) .rng [(.int 3)] [.asg (.name 5) (.blt .tuple [(.lc [("number", 6)] (.name 6) .seq [(.var 1)] none (.blt .max [(.int 0), (.bin .Sub (.var 6) (.call 12 [(.var 0), (.int 5)]))]))]),
  .asg (.name 5) (.blt .tuple [(.lc [("hour", 7)] (.name 7) .rng [(.blt .len [(.var 5)])] none (.blt .max [(.sl (.var 5) none (some (.bin .Add (.var 7) (.int 1))))]))]),
  .ife (.and [(.call 7 [(.var 5), (.var 2)]), (.not (.call 17 [(.var 5), (.var 3)]))]) [.retA (.bl false)] [],
  .ife (.not (.call 17 [(.call 10 [(.var 5), (.var 2)]), (.var 3)])) [.retA (.bl false)] []],
  .retA (.cmp .Eq (.idx (.var 3) (.int 0)) (.idx (.var 1) (.int 0)))]
theorem k__law_is_shaped_right (C : Nat → Con) (k : Nat) (S : Nat → Except Err D → (D → Prop) → Prop) : chkSs (GG C k S) (21, false, false) N__law_is_shaped_right clsL (defScope (top 30)) s__law_is_shaped_right (defBody (top 30)) = true := by kernel_rfl
theorem f__law_is_shaped_right : FnScope N__law_is_shaped_right ["hand", "comes", "curve"] (defScope (top 30)) := ⟨rfl, rfl, rfl, by decide +kernel, rfl, by decide +kernel, by decide +kernel⟩
def N__law_is_right : List Str := ["hand", "hours", "straight", "flag", "odd", "flags", "wrong", "curve", "comes", "burst", "rate", "late", "poured", "served"]
def s__law_is_right : List S := [.asg (.name 1) (.bin .Add (.int 1) (.call 12 [(.var 0), (.int 12)])),
  .asg (.tup [(.name 7), (.name 8)]) (.tup [(.call 15 [(.var 0), (.var 1), (.int 7)]), (.call 15 [(.var 0), (.var 1), (.int 7)])]),
  .ife (.or [(.not (.call 20 [(.var 0), (.var 7)])), (.not (.call 21 [(.var 0), (.var 8), (.call 9 [(.var 7)])]))]) [.retA (.bl false)] [],
  .ife (.cmp .NotEq (.call 7 [(.var 8), (.var 7)]) (.call 7 [(.var 8), (.call 9 [(.var 7)])])) [.retA (.bl false)] [],
  .par3 9 10 11 (.call 12 [(.var 0), (.int 9)]) (.call 12 [(.var 0), (.int 5)]) (.bin .Add (.int 1) (.call 12 [(.var 0), (.int 3)])),
  .par 12 13 (.call 5 [(.var 9), (.var 10), (.var 1)]) (.call 6 [(.var 11), (.var 10), (.var 1)]),
  .ife (.or [(.cmp .NotEq (.call 9 [(.var 12)]) (.var 12)), (.not (.call 21 [(.var 0), (.var 8), (.var 12)]))]) [.retA (.bl false)] [],
  .asg (.name 2) (.call 6 [(.int 0), (.var 10), (.var 1)]),
  .ife (.or [(.and [(.cmp .Gt (.var 1) (.int 1)), (.cmp .NotEq (.call 9 [(.var 13)]) (.bin .Mult (.tup [(.int 0)]) (.var 1)))]), (.cmp .NotEq (.call 9 [(.var 2)]) (.var 2))]) [.retA (.bl false)] [],
  .asg (.name 3) (.cmp .Eq (.call 19 [(.var 7)]) (.var 7)),
  .ife (.cmp .Eq (.said 0 (.call 10 [(.var 8), (.var 7)])) (.var 3)) [.retA (.bl false)] [],
  .asg (.name 4) (.lst [.non, (.tup []), (.int 0), (.blt .list [(.var 7)]), (.bin .Add (.var 7) (.sl (.var 7) (some (.neg (.int 1))) none)), (.bin .Add (.tup [(.neg (.int 1))]) (.sl (.var 7) (some (.int 1)) none)), (.bin .Mult (.tup [(.bl true)]) (.var 1)), (.str "curve"), (.dnew false)]),
  .mov [0, 4] (.name 4) (.call 13 [(.var 0), (.var 4)]),
  .asg (.name 5) (.lst [(.said 0 (.call 10 [(.var 8), (.var 4)]))]),
  .app 5 (.said 0 (.call 10 [(.var 4), (.call 9 [(.var 7)])])),
  .mov [0, 7] (.name 6) (.call 13 [(.var 0), (.lst [.non, (.tup []), (.int 0), (.blt .list [(.var 7)]), (.bin .Mult (.tup [(.int 0)]) (.int 61)), (.tup [(.int 2), (.int 1)]), (.tup [(.bl true)]), (.str "curve"), (.dnew false), (.tup [(.bin .Add (.bin .Pow (.int 10) (.int 6)) (.int 1))])])]),
  .app 5 (.said 0 (.call 9 [(.var 6)])),
  .retA (.cmp .Eq (.var 5) (.bin .Mult (.lst [(.bl true)]) (.int 3)))]
theorem k__law_is_right (C : Nat → Con) (k : Nat) (S : Nat → Except Err D → (D → Prop) → Prop) : chkSs (GG C k S) (22, true, false) N__law_is_right clsL (defScope (top 31)) s__law_is_right (defBody (top 31)) = true := by kernel_rfl
theorem f__law_is_right : FnScope N__law_is_right ["hand"] (defScope (top 31)) := ⟨rfl, rfl, rfl, by decide +kernel, rfl, by decide +kernel, by decide +kernel⟩
def N_law : List Str := ["script", "hand", "found", "turn"]
def s_law : List S := [.movA (.name 1) (.call 11 [(.var 0)]),
  .asg (.name 2) (.lst [(.call 9 [(.tup [(.int 2), (.int 3), (.int 9), (.int 9)])]), (.call 10 [(.tup [(.int 5), (.int 5), (.int 9)]), (.tup [(.int 0), (.int 2), (.int 4)])])]),
  .ife (.cmp .NotEq (.var 2) (.lst [(.tup [(.int 0), (.int 3), (.int 6), (.int 9)]), (.tup [(.int 5), (.int 5), (.int 7)])])) [.retA (.bl false)] [],
  .retA (.blt .all [(.lc [("turn", 3)] (.name 3) .rng [(.int 3)] none (.call 22 [(.var 1)]))])]
theorem k_law (C : Nat → Con) (k : Nat) (S : Nat → Except Err D → (D → Prop) → Prop) : chkSs (GG C k S) (23, false, false) N_law clsL (defScope (top 32)) s_law (defBody (top 32)) = true := by kernel_rfl
theorem f_law : FnScope N_law ["script"] (defScope (top 32)) := ⟨rfl, rfl, rfl, by decide +kernel, rfl, by decide +kernel, by decide +kernel⟩
end T71
end sec_T71

section sec_L71
set_option Elab.async false
set_option linter.all false
set_option maxRecDepth 100000
set_option maxHeartbeats 4000000
namespace T71
open PySem PySem.Spec PyProof.Rows Wk
def isInt : D → Bool
  | .int _ => true
  | _ => false
def c0 : Con := fun ds Q _ => ∃ d, ds = [d] ∧ Q (.bl (isInt d))
def within (a b : Int) : D → Bool
  | .int i => decide (a ≤ i) && decide (i ≤ b)
  | _ => false
def c1 : Con := fun ds Q _ => ∃ d a b, ds = [d, .int a, .int b] ∧ Q (.bl (within a b d))
abbrev cv (xs : List Int) : D := .tup (xs.map D.int)
structure Curve (xs : List Int) : Prop where
  pos : 1 ≤ xs.length
  len : xs.length ≤ 60
  bd : ∀ x ∈ xs, 0 ≤ x ∧ x ≤ 1000000
  up : ∀ p ∈ xs.zip (xs.drop 1), p.1 ≤ p.2
def IsCurve (d : D) : Prop := ∃ xs, d = cv xs ∧ Curve xs
def c2 : Con := fun ds Q _ => ∃ d, ds = [d] ∧ ∀ b : Bool, (b = true ↔ IsCurve d) → Q (.bl b)
def OkPair (a b : D) : Prop := ∃ xs ys, a = cv xs ∧ b = cv ys ∧ Curve xs ∧ Curve ys ∧ xs.length = ys.length
def noCurve : Err := ⟨"NoCurve", none⟩
def c3 : Con := fun ds Q Z => ∃ a b, ds = [a, b] ∧ (OkPair a b → Q .non) ∧ (¬ OkPair a b → Z noCurve)
def cat (xs : List Int) (i : Nat) : Int := xs.getD i 0
def conv (xs ys : List Int) : List Int := (List.range xs.length).map fun h => mn ((List.range (h + 1)).map fun a => cat xs a + cat ys (h - a))
def unc (xs ys : List Int) : List Int := (List.range xs.length).map fun h => mx (0 :: (List.range (xs.length - h)).map fun a => cat xs (h + a) - cat ys a)
def cTwo (f : List Int → List Int → List Int) : Con := fun ds Q Z => ∃ a b, ds = [a, b] ∧ (∀ xs ys, a = cv xs → b = cv ys → Curve xs → Curve ys → xs.length = ys.length → Q (cv (f xs ys))) ∧ (¬ OkPair a b → Z noCurve)
variable (C : Nat → Con) (S : Nat → Except Err D → (D → Prop) → Prop) (k : Nat)
theorem m0 : ∀ ds Q Z, ds.length = 1 → Wk.frs ds = ds → c0 ds Q Z → wps (GG C k S) s_is_integer (entry N_is_integer ds) (endPost Q Z) := by
  rintro ds Q Z hl hf ⟨d, rfl, q⟩
  simp only [Wk.frs, List.cons.injEq, and_true] at hf
  simp only [s_is_integer, N_is_integer, hf, wps, wp, ev, evs, evO, evC, evAnd, evOr, entry, List.map_cons, List.map_nil, List.length_cons, List.length_nil, endPost, List.getElem?_cons_zero, List.getElem?_cons_succ, ex_some, ex_bl, ex_int, ex_st, ex_eq, List.cons_append, List.nil_append, Wk.fr, Wk.frs, b_add, b_sub, b_mul, b_div, b_mod, b_pow, b_addT, b_addL, b_mulL, b_mulT, q_lt, q_le, q_gt, q_ge, q_eq, q_ne, q_isN, q_isnN, i_tup, i_lst, l_tup, l_lst, l_scr, r_tup, r_lst, a_lenT, a_lenL, a_abs, a_int, a_tupT, a_tupL, a_lstT, a_lstL, a_min2, a_max2, a_sum, a_all, a_any, s_seqT, s_seqL, s_rng, s_rng2, s_enm, s_zipT, s_zipL, t_name, t_tupT, t_tupL, t_nil, t_cons, u_bl, u_int, u_tup, u_lst, isiD, ty_int_int, ty_int_bool, ty_int_str, ty_int_tuple, ty_int_list, ty_int_dict, ty_bool_int, ty_bool_bool, ty_bool_str, ty_bool_tuple, ty_bool_list, ty_bool_dict, ty_str_int, ty_str_bool, ty_str_str, ty_str_tuple, ty_str_list, ty_str_dict, ty_tuple_int, ty_tuple_bool, ty_tuple_str, ty_tuple_tuple, ty_tuple_list, ty_tuple_dict, ty_list_int, ty_list_bool, ty_list_str, ty_list_tuple, ty_list_list, ty_list_dict, ty_dict_int, ty_dict_bool, ty_dict_str, ty_dict_tuple, ty_dict_list, ty_dict_dict, Bool.not_true, Bool.not_false, Bool.or_false, Bool.false_or, Bool.or_true, Bool.true_or, List.set_cons_zero, List.set_cons_succ, wipeE,  Nat.zero_add, Nat.reduceAdd, Nat.reduceSub, List.replicate_succ, List.replicate_zero, Option.bind_some, D.bl.injEq, D.int.injEq, reduceCtorEq, Option.some.injEq, if_true, Int.toNat_natCast, at5_0, at5_1, at5_2, at5_3, at5_4, ex_own, ex_ix, ix5_1, ix5_2, ix5_3, ix5_4, ex_own', ex_ix', ne0_1, ne0_2, ne0_3, ne0_4, true_and, Option.map_some, if_false, decide_eq_true_eq, n_non, n_bl, n_int, n_str, n_tup, n_lst, Bool.false_eq_true]
  cases d <;> simpa [Wk.cl, isInt, wps, wp, ev, evs, evO, evC, evAnd, evOr, entry, List.map_cons, List.map_nil, List.length_cons, List.length_nil, endPost, List.getElem?_cons_zero, List.getElem?_cons_succ, ex_some, ex_bl, ex_int, ex_st, ex_eq, List.cons_append, List.nil_append, Wk.fr, Wk.frs, b_add, b_sub, b_mul, b_div, b_mod, b_pow, b_addT, b_addL, b_mulL, b_mulT, q_lt, q_le, q_gt, q_ge, q_eq, q_ne, q_isN, q_isnN, i_tup, i_lst, l_tup, l_lst, l_scr, r_tup, r_lst, a_lenT, a_lenL, a_abs, a_int, a_tupT, a_tupL, a_lstT, a_lstL, a_min2, a_max2, a_sum, a_all, a_any, s_seqT, s_seqL, s_rng, s_rng2, s_enm, s_zipT, s_zipL, t_name, t_tupT, t_tupL, t_nil, t_cons, u_bl, u_int, u_tup, u_lst, isiD, ty_int_int, ty_int_bool, ty_int_str, ty_int_tuple, ty_int_list, ty_int_dict, ty_bool_int, ty_bool_bool, ty_bool_str, ty_bool_tuple, ty_bool_list, ty_bool_dict, ty_str_int, ty_str_bool, ty_str_str, ty_str_tuple, ty_str_list, ty_str_dict, ty_tuple_int, ty_tuple_bool, ty_tuple_str, ty_tuple_tuple, ty_tuple_list, ty_tuple_dict, ty_list_int, ty_list_bool, ty_list_str, ty_list_tuple, ty_list_list, ty_list_dict, ty_dict_int, ty_dict_bool, ty_dict_str, ty_dict_tuple, ty_dict_list, ty_dict_dict, Bool.not_true, Bool.not_false, Bool.or_false, Bool.false_or, Bool.or_true, Bool.true_or, List.set_cons_zero, List.set_cons_succ, wipeE,  Nat.zero_add, Nat.reduceAdd, Nat.reduceSub, List.replicate_succ, List.replicate_zero, Option.bind_some, D.bl.injEq, D.int.injEq, reduceCtorEq, Option.some.injEq, if_true, Int.toNat_natCast, at5_0, at5_1, at5_2, at5_3, at5_4, ex_own, ex_ix, ix5_1, ix5_2, ix5_3, ix5_4, ex_own', ex_ix', ne0_1, ne0_2, ne0_3, ne0_4, true_and, Option.map_some, if_false, decide_eq_true_eq, n_non, n_bl, n_int, n_str, n_tup, n_lst, Bool.false_eq_true] using q
theorem m1 (h0 : C 0 = c0) : ∀ ds Q Z, ds.length = 3 → Wk.frs ds = ds → c1 ds Q Z → wps (GG C k S) s_is_within (entry N_is_within ds) (endPost Q Z) := by
  rintro ds Q Z hl hf ⟨d, a, b, rfl, q⟩
  simp only [Wk.frs, Wk.fr, List.cons.injEq, and_true] at hf
  simp only [s_is_within, N_is_within, hf, h0, wps, wp, ev, evs, evO, evC, evAnd, evOr, entry, List.map_cons, List.map_nil, List.length_cons, List.length_nil, endPost, List.getElem?_cons_zero, List.getElem?_cons_succ, ex_some, ex_bl, ex_int, ex_st, ex_eq, List.cons_append, List.nil_append, Wk.fr, Wk.frs, b_add, b_sub, b_mul, b_div, b_mod, b_pow, b_addT, b_addL, b_mulL, b_mulT, q_lt, q_le, q_gt, q_ge, q_eq, q_ne, q_isN, q_isnN, i_tup, i_lst, l_tup, l_lst, l_scr, r_tup, r_lst, a_lenT, a_lenL, a_abs, a_int, a_tupT, a_tupL, a_lstT, a_lstL, a_min2, a_max2, a_sum, a_all, a_any, s_seqT, s_seqL, s_rng, s_rng2, s_enm, s_zipT, s_zipL, t_name, t_tupT, t_tupL, t_nil, t_cons, u_bl, u_int, u_tup, u_lst, isiD, ty_int_int, ty_int_bool, ty_int_str, ty_int_tuple, ty_int_list, ty_int_dict, ty_bool_int, ty_bool_bool, ty_bool_str, ty_bool_tuple, ty_bool_list, ty_bool_dict, ty_str_int, ty_str_bool, ty_str_str, ty_str_tuple, ty_str_list, ty_str_dict, ty_tuple_int, ty_tuple_bool, ty_tuple_str, ty_tuple_tuple, ty_tuple_list, ty_tuple_dict, ty_list_int, ty_list_bool, ty_list_str, ty_list_tuple, ty_list_list, ty_list_dict, ty_dict_int, ty_dict_bool, ty_dict_str, ty_dict_tuple, ty_dict_list, ty_dict_dict, Bool.not_true, Bool.not_false, Bool.or_false, Bool.false_or, Bool.or_true, Bool.true_or, List.set_cons_zero, List.set_cons_succ, wipeE,  Nat.zero_add, Nat.reduceAdd, Nat.reduceSub, List.replicate_succ, List.replicate_zero, Option.bind_some, D.bl.injEq, D.int.injEq, reduceCtorEq, Option.some.injEq, if_true, Int.toNat_natCast, at5_0, at5_1, at5_2, at5_3, at5_4, ex_own, ex_ix, ix5_1, ix5_2, ix5_3, ix5_4, ex_own', ex_ix', ne0_1, ne0_2, ne0_3, ne0_4, true_and, Option.map_some, if_false, decide_eq_true_eq, n_non, n_bl, n_int, n_str, n_tup, n_lst, Bool.false_eq_true]
  refine mc_iff ⟨d, rfl, isInt d, rfl, ?_⟩
  cases d with
  | int i =>
    simp only [isInt, if_true, wps, wp, ev, evs, evO, evC, evAnd, evOr, entry, List.map_cons, List.map_nil, List.length_cons, List.length_nil, endPost, List.getElem?_cons_zero, List.getElem?_cons_succ, ex_some, ex_bl, ex_int, ex_st, ex_eq, List.cons_append, List.nil_append, Wk.fr, Wk.frs, b_add, b_sub, b_mul, b_div, b_mod, b_pow, b_addT, b_addL, b_mulL, b_mulT, q_lt, q_le, q_gt, q_ge, q_eq, q_ne, q_isN, q_isnN, i_tup, i_lst, l_tup, l_lst, l_scr, r_tup, r_lst, a_lenT, a_lenL, a_abs, a_int, a_tupT, a_tupL, a_lstT, a_lstL, a_min2, a_max2, a_sum, a_all, a_any, s_seqT, s_seqL, s_rng, s_rng2, s_enm, s_zipT, s_zipL, t_name, t_tupT, t_tupL, t_nil, t_cons, u_bl, u_int, u_tup, u_lst, isiD, ty_int_int, ty_int_bool, ty_int_str, ty_int_tuple, ty_int_list, ty_int_dict, ty_bool_int, ty_bool_bool, ty_bool_str, ty_bool_tuple, ty_bool_list, ty_bool_dict, ty_str_int, ty_str_bool, ty_str_str, ty_str_tuple, ty_str_list, ty_str_dict, ty_tuple_int, ty_tuple_bool, ty_tuple_str, ty_tuple_tuple, ty_tuple_list, ty_tuple_dict, ty_list_int, ty_list_bool, ty_list_str, ty_list_tuple, ty_list_list, ty_list_dict, ty_dict_int, ty_dict_bool, ty_dict_str, ty_dict_tuple, ty_dict_list, ty_dict_dict, Bool.not_true, Bool.not_false, Bool.or_false, Bool.false_or, Bool.or_true, Bool.true_or, List.set_cons_zero, List.set_cons_succ, wipeE,  Nat.zero_add, Nat.reduceAdd, Nat.reduceSub, List.replicate_succ, List.replicate_zero, Option.bind_some, D.bl.injEq, D.int.injEq, reduceCtorEq, Option.some.injEq, if_true, Int.toNat_natCast, at5_0, at5_1, at5_2, at5_3, at5_4, ex_own, ex_ix, ix5_1, ix5_2, ix5_3, ix5_4, ex_own', ex_ix', ne0_1, ne0_2, ne0_3, ne0_4, true_and, Option.map_some, if_false, decide_eq_true_eq, n_non, n_bl, n_int, n_str, n_tup, n_lst, Bool.false_eq_true, decide_eq_true_eq]
    simp only [within] at q
    by_cases h : a ≤ i
    · simpa [h, Wk.cl] using q
    · simpa [h, Wk.cl] using q
  | _ => simpa [isInt, Wk.cl, within] using q
theorem all_within {ds : List D} (h : ∀ d ∈ ds, within 0 1000000 d = true) : ∃ xs : List Int, ds = xs.map D.int ∧ ∀ x ∈ xs, 0 ≤ x ∧ x ≤ 1000000 := by
  induction ds with
  | nil => exact ⟨[], rfl, by simp⟩
  | cons d ds ih =>
    obtain ⟨xs, rfl, hx⟩ := ih fun e he => h e (by simp [he])
    have := h d (by simp)
    cases d with
    | int i =>
      refine ⟨i :: xs, rfl, ?_⟩
      intro x hx'
      rcases List.mem_cons.mp hx' with rfl | hx'
      · simpa [within] using this
      · exact hx x hx'
    | _ => simp [within] at this
theorem cv_inj {xs ys : List Int} (h : cv xs = cv ys) : xs = ys := by
  have h : xs.map D.int = ys.map D.int := by simpa [cv] using h
  have := congrArg ints? h
  rw [Wk.ints_map, Wk.ints_map] at this
  exact Option.some.inj this
theorem cut1 {α : Type} (xs : List α) : Wk.cutD xs (some 1) none = xs.drop 1 := by
  unfold Wk.cutD HT.sIx
  simp only [show ¬ ((1 : Int) < 0) by decide, if_false, show (1 : Int).toNat = 1 from rfl]
  cases xs with
  | nil => rfl
  | cons x xs =>
    rw [show min 1 (x :: xs).length = 1 by simp]
    rw [List.take_of_length_le]
    simp
theorem frs_fr {ds : List D} (h : Wk.frs ds = ds) : ∀ d ∈ ds, Wk.fr d = d := by
  induction ds with
  | nil => simp
  | cons d ds ih =>
    simp only [Wk.frs, List.cons.injEq] at h
    intro e he
    rcases List.mem_cons.mp he with rfl | he
    · exact h.1
    · exact ih h.2 e he
theorem m2 (h1 : C 1 = c1) : ∀ ds Q Z, ds.length = 1 → Wk.frs ds = ds → c2 ds Q Z → wps (GG C k S) s_is_curve (entry N_is_curve ds) (endPost Q Z) := by
  rintro ds Q Z hl hf ⟨d, rfl, q⟩
  simp only [Wk.frs, List.cons.injEq, and_true] at hf
  cases d with
  | tup ds =>
    simp only [Wk.fr, D.tup.injEq] at hf
    simp only [s_is_curve, N_is_curve, hf, h1, wps, wp, ev, evs, evO, evC, evAnd, evOr, entry, List.map_cons, List.map_nil, List.length_cons, List.length_nil, endPost, List.getElem?_cons_zero, List.getElem?_cons_succ, ex_some, ex_bl, ex_int, ex_st, ex_eq, List.cons_append, List.nil_append, Wk.fr, Wk.frs, b_add, b_sub, b_mul, b_div, b_mod, b_pow, b_addT, b_addL, b_mulL, b_mulT, q_lt, q_le, q_gt, q_ge, q_eq, q_ne, q_isN, q_isnN, i_tup, i_lst, l_tup, l_lst, l_scr, r_tup, r_lst, a_lenT, a_lenL, a_abs, a_int, a_tupT, a_tupL, a_lstT, a_lstL, a_min2, a_max2, a_sum, a_all, a_any, s_seqT, s_seqL, s_rng, s_rng2, s_enm, s_zipT, s_zipL, t_name, t_tupT, t_tupL, t_nil, t_cons, u_bl, u_int, u_tup, u_lst, isiD, ty_int_int, ty_int_bool, ty_int_str, ty_int_tuple, ty_int_list, ty_int_dict, ty_bool_int, ty_bool_bool, ty_bool_str, ty_bool_tuple, ty_bool_list, ty_bool_dict, ty_str_int, ty_str_bool, ty_str_str, ty_str_tuple, ty_str_list, ty_str_dict, ty_tuple_int, ty_tuple_bool, ty_tuple_str, ty_tuple_tuple, ty_tuple_list, ty_tuple_dict, ty_list_int, ty_list_bool, ty_list_str, ty_list_tuple, ty_list_list, ty_list_dict, ty_dict_int, ty_dict_bool, ty_dict_str, ty_dict_tuple, ty_dict_list, ty_dict_dict, Bool.not_true, Bool.not_false, Bool.or_false, Bool.false_or, Bool.or_true, Bool.true_or, List.set_cons_zero, List.set_cons_succ, wipeE,  Nat.zero_add, Nat.reduceAdd, Nat.reduceSub, List.replicate_succ, List.replicate_zero, Option.bind_some, D.bl.injEq, D.int.injEq, reduceCtorEq, Option.some.injEq, if_true, Int.toNat_natCast, at5_0, at5_1, at5_2, at5_3, at5_4, ex_own, ex_ix, ix5_1, ix5_2, ix5_3, ix5_4, ex_own', ex_ix', ne0_1, ne0_2, ne0_3, ne0_4, true_and, Option.map_some, if_false, decide_eq_true_eq, n_non, n_bl, n_int, n_str, n_tup, n_lst, Bool.false_eq_true, decide_true, Bool.false_eq_true, if_false, if_true, show (conF "MOST" = some 1000000) from rfl, show (conF "MOST_LONG" = some 60) from rfl]
    have no : ¬ (1 ≤ ds.length ∧ ds.length ≤ 60) → Q (.bl false) := fun n => q false ⟨(fun h => nomatch h), fun ⟨xs, e, c⟩ => by
      cases e
      exact absurd ⟨by simpa using c.pos, by simpa using c.len⟩ n⟩
    have main : 1 ≤ ds.length → ds.length ≤ 60 → ds.length ≤ 1000000 ∧
          Wk.compW (fun x o => mc c1 [Wk.fr (Wk.fr x), D.int 0, D.int 1000000] (fun y => o (some y)) fun x => False) ds fun r =>
            ∃ bs, bls? r = some bs ∧
                if (!bs.all id) = true then Q (D.bl false)
                else (zipD ds (Wk.frs (Wk.cutD ds (some 1) none))).length ≤ 1000000 ∧
                    Wk.compW (fun x o => ∃ env', bindT (Tg.tup [Tg.name 1, Tg.name 2]) x [some (D.tup ds), none, none] = some env' ∧
                            ∃ d, env'[1]? = some (some d) ∧ ∃ d_1, env'[2]? = some (some d_1) ∧ cmpW CmpOp.LtE (Wk.fr d) (Wk.fr d_1) fun y => o (some y))
                      (zipD ds (Wk.frs (Wk.cutD ds (some 1) none))) fun r => ∃ bs, bls? r = some bs ∧ Q (D.bl (bs.all id)) := by
      intro l1 l2
      refine ⟨by omega, compW_map (g := fun x => .bl (within 0 1000000 x)) (fun x hx R hR => ?_) ⟨_, bls_mapf _ _, ?_⟩⟩
      · rw [frs_fr hf x hx, frs_fr hf x hx]
        exact mc_iff ⟨x, 0, 1000000, rfl, hR⟩
      · by_cases hw : (ds.map (within 0 1000000)).all id = true
        · rw [hw]
          simp only [Bool.not_true, Bool.false_eq_true, if_false]
          obtain ⟨xs, rfl, hb⟩ := all_within (ds := ds) fun d hd => by simpa using List.all_eq_true.mp hw _ (List.mem_map.mpr ⟨d, hd, rfl⟩)
          have e : zipD (xs.map D.int) (Wk.frs (Wk.cutD (xs.map D.int) (some 1) none)) = (xs.zip (xs.drop 1)).map fun p => .tup [.int p.1, .int p.2] := by
            rw [cut1, ← List.map_drop, frs_int, zipD_int]
          rw [e]
          refine ⟨by simp at l2 ⊢; omega, compW_of (g := fun p : Int × Int => .bl (decide (p.1 ≤ p.2))) (fun p hp R hR => ?_) ⟨_, bls_mapf _ _, q _ ?_⟩⟩
          · simp only [wps, wp, ev, evs, evO, evC, evAnd, evOr, entry, List.map_cons, List.map_nil, List.length_cons, List.length_nil, endPost, List.getElem?_cons_zero, List.getElem?_cons_succ, ex_some, ex_bl, ex_int, ex_st, ex_eq, List.cons_append, List.nil_append, Wk.fr, Wk.frs, b_add, b_sub, b_mul, b_div, b_mod, b_pow, b_addT, b_addL, b_mulL, b_mulT, q_lt, q_le, q_gt, q_ge, q_eq, q_ne, q_isN, q_isnN, i_tup, i_lst, l_tup, l_lst, l_scr, r_tup, r_lst, a_lenT, a_lenL, a_abs, a_int, a_tupT, a_tupL, a_lstT, a_lstL, a_min2, a_max2, a_sum, a_all, a_any, s_seqT, s_seqL, s_rng, s_rng2, s_enm, s_zipT, s_zipL, t_name, t_tupT, t_tupL, t_nil, t_cons, u_bl, u_int, u_tup, u_lst, isiD, ty_int_int, ty_int_bool, ty_int_str, ty_int_tuple, ty_int_list, ty_int_dict, ty_bool_int, ty_bool_bool, ty_bool_str, ty_bool_tuple, ty_bool_list, ty_bool_dict, ty_str_int, ty_str_bool, ty_str_str, ty_str_tuple, ty_str_list, ty_str_dict, ty_tuple_int, ty_tuple_bool, ty_tuple_str, ty_tuple_tuple, ty_tuple_list, ty_tuple_dict, ty_list_int, ty_list_bool, ty_list_str, ty_list_tuple, ty_list_list, ty_list_dict, ty_dict_int, ty_dict_bool, ty_dict_str, ty_dict_tuple, ty_dict_list, ty_dict_dict, Bool.not_true, Bool.not_false, Bool.or_false, Bool.false_or, Bool.or_true, Bool.true_or, List.set_cons_zero, List.set_cons_succ, wipeE,  Nat.zero_add, Nat.reduceAdd, Nat.reduceSub, List.replicate_succ, List.replicate_zero, Option.bind_some, D.bl.injEq, D.int.injEq, reduceCtorEq, Option.some.injEq, if_true, Int.toNat_natCast, at5_0, at5_1, at5_2, at5_3, at5_4, ex_own, ex_ix, ix5_1, ix5_2, ix5_3, ix5_4, ex_own', ex_ix', ne0_1, ne0_2, ne0_3, ne0_4, true_and, Option.map_some, if_false, decide_eq_true_eq, n_non, n_bl, n_int, n_str, n_tup, n_lst, Bool.false_eq_true]
            exact hR
          · simp only [List.all_map, List.all_eq_true, Function.comp_apply, id, decide_eq_true_eq]
            exact ⟨fun h => ⟨xs, rfl, by simpa using l1, by simpa using l2, hb, h⟩, fun ⟨ys, ey, c⟩ => by
              have := cv_inj ey
              subst this
              exact c.up⟩
        · rw [Bool.not_eq_true] at hw
          rw [hw]
          simp only [Bool.not_false, if_true]
          refine q false ⟨(fun h => nomatch h), fun ⟨xs, e, c⟩ => ?_⟩
          cases e
          exfalso
          have : ((xs.map D.int).map (within 0 1000000)).all id = true := by
            simp only [List.all_map, List.all_eq_true, Function.comp_apply, id]
            intro x hx
            have := c.bd x hx
            simp [within, this.1, this.2]
          rw [this] at hw; cases hw
    by_cases l1 : 1 ≤ ds.length
    · rw [if_pos (by first | omega | (simp; omega))]
      by_cases l2 : ds.length ≤ 60
      · rw [if_neg (by first | omega | (simp; omega))]
        exact main l1 l2
      · rw [if_pos (by first | omega | (simp; omega))]
        exact no fun h => l2 h.2
    · rw [if_neg (by first | omega | (simp; omega))]
      exact no fun h => l1 h.1
  | _ =>
    simp only [s_is_curve, N_is_curve, hf, h1, wps, wp, ev, evs, evO, evC, evAnd, evOr, entry, List.map_cons, List.map_nil, List.length_cons, List.length_nil, endPost, List.getElem?_cons_zero, List.getElem?_cons_succ, ex_some, ex_bl, ex_int, ex_st, ex_eq, List.cons_append, List.nil_append, Wk.fr, Wk.frs, b_add, b_sub, b_mul, b_div, b_mod, b_pow, b_addT, b_addL, b_mulL, b_mulT, q_lt, q_le, q_gt, q_ge, q_eq, q_ne, q_isN, q_isnN, i_tup, i_lst, l_tup, l_lst, l_scr, r_tup, r_lst, a_lenT, a_lenL, a_abs, a_int, a_tupT, a_tupL, a_lstT, a_lstL, a_min2, a_max2, a_sum, a_all, a_any, s_seqT, s_seqL, s_rng, s_rng2, s_enm, s_zipT, s_zipL, t_name, t_tupT, t_tupL, t_nil, t_cons, u_bl, u_int, u_tup, u_lst, isiD, ty_int_int, ty_int_bool, ty_int_str, ty_int_tuple, ty_int_list, ty_int_dict, ty_bool_int, ty_bool_bool, ty_bool_str, ty_bool_tuple, ty_bool_list, ty_bool_dict, ty_str_int, ty_str_bool, ty_str_str, ty_str_tuple, ty_str_list, ty_str_dict, ty_tuple_int, ty_tuple_bool, ty_tuple_str, ty_tuple_tuple, ty_tuple_list, ty_tuple_dict, ty_list_int, ty_list_bool, ty_list_str, ty_list_tuple, ty_list_list, ty_list_dict, ty_dict_int, ty_dict_bool, ty_dict_str, ty_dict_tuple, ty_dict_list, ty_dict_dict, Bool.not_true, Bool.not_false, Bool.or_false, Bool.false_or, Bool.or_true, Bool.true_or, List.set_cons_zero, List.set_cons_succ, wipeE,  Nat.zero_add, Nat.reduceAdd, Nat.reduceSub, List.replicate_succ, List.replicate_zero, Option.bind_some, D.bl.injEq, D.int.injEq, reduceCtorEq, Option.some.injEq, if_true, Int.toNat_natCast, at5_0, at5_1, at5_2, at5_3, at5_4, ex_own, ex_ix, ix5_1, ix5_2, ix5_3, ix5_4, ex_own', ex_ix', ne0_1, ne0_2, ne0_3, ne0_4, true_and, Option.map_some, if_false, decide_eq_true_eq, n_non, n_bl, n_int, n_str, n_tup, n_lst, Bool.false_eq_true, Bool.false_eq_true, if_false, if_true]
    exact q false ⟨(fun h => nomatch h), fun ⟨xs, e, c⟩ => by cases e⟩
theorem at_cat {xs : List Int} {a : Nat} (h : a < xs.length) : L2.atI (xs.map D.int) (a : Int) = some (.int (cat xs a)) := by
  rw [atI_map, atI_nat h]
  simp [cat, h]
theorem m3 (h2 : C 2 = c2) : ∀ ds Q Z, ds.length = 2 → Wk.frs ds = ds → c3 ds Q Z → wps (GG C k S) s_check_curves (entry N_check_curves ds) (endPost Q Z) := by
  rintro ds Q Z hl hf ⟨a, b, rfl, q, z⟩
  simp only [Wk.frs, List.cons.injEq, and_true] at hf
  simp only [s_check_curves, N_check_curves, hf.1, hf.2, h2, wps, wp, ev, evs, evO, evC, evAnd, evOr, entry, List.map_cons, List.map_nil, List.length_cons, List.length_nil, endPost, List.getElem?_cons_zero, List.getElem?_cons_succ, ex_some, ex_bl, ex_int, ex_st, ex_eq, List.cons_append, List.nil_append, Wk.fr, Wk.frs, b_add, b_sub, b_mul, b_div, b_mod, b_pow, b_addT, b_addL, b_mulL, b_mulT, q_lt, q_le, q_gt, q_ge, q_eq, q_ne, q_isN, q_isnN, i_tup, i_lst, l_tup, l_lst, l_scr, r_tup, r_lst, a_lenT, a_lenL, a_abs, a_int, a_tupT, a_tupL, a_lstT, a_lstL, a_min2, a_max2, a_sum, a_all, a_any, s_seqT, s_seqL, s_rng, s_rng2, s_enm, s_zipT, s_zipL, t_name, t_tupT, t_tupL, t_nil, t_cons, u_bl, u_int, u_tup, u_lst, isiD, ty_int_int, ty_int_bool, ty_int_str, ty_int_tuple, ty_int_list, ty_int_dict, ty_bool_int, ty_bool_bool, ty_bool_str, ty_bool_tuple, ty_bool_list, ty_bool_dict, ty_str_int, ty_str_bool, ty_str_str, ty_str_tuple, ty_str_list, ty_str_dict, ty_tuple_int, ty_tuple_bool, ty_tuple_str, ty_tuple_tuple, ty_tuple_list, ty_tuple_dict, ty_list_int, ty_list_bool, ty_list_str, ty_list_tuple, ty_list_list, ty_list_dict, ty_dict_int, ty_dict_bool, ty_dict_str, ty_dict_tuple, ty_dict_list, ty_dict_dict, Bool.not_true, Bool.not_false, Bool.or_false, Bool.false_or, Bool.or_true, Bool.true_or, List.set_cons_zero, List.set_cons_succ, wipeE,  Nat.zero_add, Nat.reduceAdd, Nat.reduceSub, List.replicate_succ, List.replicate_zero, Option.bind_some, D.bl.injEq, D.int.injEq, reduceCtorEq, Option.some.injEq, if_true, Int.toNat_natCast, at5_0, at5_1, at5_2, at5_3, at5_4, ex_own, ex_ix, ix5_1, ix5_2, ix5_3, ix5_4, ex_own', ex_ix', ne0_1, ne0_2, ne0_3, ne0_4, true_and, Option.map_some, if_false, decide_eq_true_eq, n_non, n_bl, n_int, n_str, n_tup, n_lst, Bool.false_eq_true]
  refine mc_iff ⟨a, rfl, fun ba ha => ⟨ba, rfl, ?_⟩⟩
  cases ba with
  | false =>
    simp only [Bool.not_false, if_true, wps, wp, ev, evs, evO, evC, evAnd, evOr, entry, List.map_cons, List.map_nil, List.length_cons, List.length_nil, endPost, List.getElem?_cons_zero, List.getElem?_cons_succ, ex_some, ex_bl, ex_int, ex_st, ex_eq, List.cons_append, List.nil_append, Wk.fr, Wk.frs, b_add, b_sub, b_mul, b_div, b_mod, b_pow, b_addT, b_addL, b_mulL, b_mulT, q_lt, q_le, q_gt, q_ge, q_eq, q_ne, q_isN, q_isnN, i_tup, i_lst, l_tup, l_lst, l_scr, r_tup, r_lst, a_lenT, a_lenL, a_abs, a_int, a_tupT, a_tupL, a_lstT, a_lstL, a_min2, a_max2, a_sum, a_all, a_any, s_seqT, s_seqL, s_rng, s_rng2, s_enm, s_zipT, s_zipL, t_name, t_tupT, t_tupL, t_nil, t_cons, u_bl, u_int, u_tup, u_lst, isiD, ty_int_int, ty_int_bool, ty_int_str, ty_int_tuple, ty_int_list, ty_int_dict, ty_bool_int, ty_bool_bool, ty_bool_str, ty_bool_tuple, ty_bool_list, ty_bool_dict, ty_str_int, ty_str_bool, ty_str_str, ty_str_tuple, ty_str_list, ty_str_dict, ty_tuple_int, ty_tuple_bool, ty_tuple_str, ty_tuple_tuple, ty_tuple_list, ty_tuple_dict, ty_list_int, ty_list_bool, ty_list_str, ty_list_tuple, ty_list_list, ty_list_dict, ty_dict_int, ty_dict_bool, ty_dict_str, ty_dict_tuple, ty_dict_list, ty_dict_dict, Bool.not_true, Bool.not_false, Bool.or_false, Bool.false_or, Bool.or_true, Bool.true_or, List.set_cons_zero, List.set_cons_succ, wipeE,  Nat.zero_add, Nat.reduceAdd, Nat.reduceSub, List.replicate_succ, List.replicate_zero, Option.bind_some, D.bl.injEq, D.int.injEq, reduceCtorEq, Option.some.injEq, if_true, Int.toNat_natCast, at5_0, at5_1, at5_2, at5_3, at5_4, ex_own, ex_ix, ix5_1, ix5_2, ix5_3, ix5_4, ex_own', ex_ix', ne0_1, ne0_2, ne0_3, ne0_4, true_and, Option.map_some, if_false, decide_eq_true_eq, n_non, n_bl, n_int, n_str, n_tup, n_lst, Bool.false_eq_true]
    exact z fun ⟨xs, ys, e1, e2, c1, c2, l⟩ => by
      have := ha.mpr ⟨xs, e1, c1⟩
      cases this
  | true =>
    simp only [Bool.not_true, Bool.false_eq_true, if_false]
    refine mc_iff ⟨b, rfl, fun bb hb => ⟨bb, rfl, ?_⟩⟩
    cases bb with
    | false =>
      simp only [Bool.not_false, if_true, wps, wp, ev, evs, evO, evC, evAnd, evOr, entry, List.map_cons, List.map_nil, List.length_cons, List.length_nil, endPost, List.getElem?_cons_zero, List.getElem?_cons_succ, ex_some, ex_bl, ex_int, ex_st, ex_eq, List.cons_append, List.nil_append, Wk.fr, Wk.frs, b_add, b_sub, b_mul, b_div, b_mod, b_pow, b_addT, b_addL, b_mulL, b_mulT, q_lt, q_le, q_gt, q_ge, q_eq, q_ne, q_isN, q_isnN, i_tup, i_lst, l_tup, l_lst, l_scr, r_tup, r_lst, a_lenT, a_lenL, a_abs, a_int, a_tupT, a_tupL, a_lstT, a_lstL, a_min2, a_max2, a_sum, a_all, a_any, s_seqT, s_seqL, s_rng, s_rng2, s_enm, s_zipT, s_zipL, t_name, t_tupT, t_tupL, t_nil, t_cons, u_bl, u_int, u_tup, u_lst, isiD, ty_int_int, ty_int_bool, ty_int_str, ty_int_tuple, ty_int_list, ty_int_dict, ty_bool_int, ty_bool_bool, ty_bool_str, ty_bool_tuple, ty_bool_list, ty_bool_dict, ty_str_int, ty_str_bool, ty_str_str, ty_str_tuple, ty_str_list, ty_str_dict, ty_tuple_int, ty_tuple_bool, ty_tuple_str, ty_tuple_tuple, ty_tuple_list, ty_tuple_dict, ty_list_int, ty_list_bool, ty_list_str, ty_list_tuple, ty_list_list, ty_list_dict, ty_dict_int, ty_dict_bool, ty_dict_str, ty_dict_tuple, ty_dict_list, ty_dict_dict, Bool.not_true, Bool.not_false, Bool.or_false, Bool.false_or, Bool.or_true, Bool.true_or, List.set_cons_zero, List.set_cons_succ, wipeE,  Nat.zero_add, Nat.reduceAdd, Nat.reduceSub, List.replicate_succ, List.replicate_zero, Option.bind_some, D.bl.injEq, D.int.injEq, reduceCtorEq, Option.some.injEq, if_true, Int.toNat_natCast, at5_0, at5_1, at5_2, at5_3, at5_4, ex_own, ex_ix, ix5_1, ix5_2, ix5_3, ix5_4, ex_own', ex_ix', ne0_1, ne0_2, ne0_3, ne0_4, true_and, Option.map_some, if_false, decide_eq_true_eq, n_non, n_bl, n_int, n_str, n_tup, n_lst, Bool.false_eq_true]
      exact z fun ⟨xs, ys, e1, e2, c1, c2, l⟩ => by
        have := hb.mpr ⟨ys, e2, c2⟩
        cases this
    | true =>
      obtain ⟨xs, rfl, cx⟩ := ha.mp rfl
      obtain ⟨ys, rfl, cy⟩ := hb.mp rfl
      simp only [Bool.not_true, Bool.false_eq_true, if_false, wps, wp, ev, evs, evO, evC, evAnd, evOr, entry, List.map_cons, List.map_nil, List.length_cons, List.length_nil, endPost, List.getElem?_cons_zero, List.getElem?_cons_succ, ex_some, ex_bl, ex_int, ex_st, ex_eq, List.cons_append, List.nil_append, Wk.fr, Wk.frs, b_add, b_sub, b_mul, b_div, b_mod, b_pow, b_addT, b_addL, b_mulL, b_mulT, q_lt, q_le, q_gt, q_ge, q_eq, q_ne, q_isN, q_isnN, i_tup, i_lst, l_tup, l_lst, l_scr, r_tup, r_lst, a_lenT, a_lenL, a_abs, a_int, a_tupT, a_tupL, a_lstT, a_lstL, a_min2, a_max2, a_sum, a_all, a_any, s_seqT, s_seqL, s_rng, s_rng2, s_enm, s_zipT, s_zipL, t_name, t_tupT, t_tupL, t_nil, t_cons, u_bl, u_int, u_tup, u_lst, isiD, ty_int_int, ty_int_bool, ty_int_str, ty_int_tuple, ty_int_list, ty_int_dict, ty_bool_int, ty_bool_bool, ty_bool_str, ty_bool_tuple, ty_bool_list, ty_bool_dict, ty_str_int, ty_str_bool, ty_str_str, ty_str_tuple, ty_str_list, ty_str_dict, ty_tuple_int, ty_tuple_bool, ty_tuple_str, ty_tuple_tuple, ty_tuple_list, ty_tuple_dict, ty_list_int, ty_list_bool, ty_list_str, ty_list_tuple, ty_list_list, ty_list_dict, ty_dict_int, ty_dict_bool, ty_dict_str, ty_dict_tuple, ty_dict_list, ty_dict_dict, Bool.not_true, Bool.not_false, Bool.or_false, Bool.false_or, Bool.or_true, Bool.true_or, List.set_cons_zero, List.set_cons_succ, wipeE,  Nat.zero_add, Nat.reduceAdd, Nat.reduceSub, List.replicate_succ, List.replicate_zero, Option.bind_some, D.bl.injEq, D.int.injEq, reduceCtorEq, Option.some.injEq, if_true, Int.toNat_natCast, at5_0, at5_1, at5_2, at5_3, at5_4, ex_own, ex_ix, ix5_1, ix5_2, ix5_3, ix5_4, ex_own', ex_ix', ne0_1, ne0_2, ne0_3, ne0_4, true_and, Option.map_some, if_false, decide_eq_true_eq, n_non, n_bl, n_int, n_str, n_tup, n_lst, Bool.false_eq_true, List.length_map]
      refine ⟨eqOk_int _ _, ?_⟩
      by_cases l : xs.length = ys.length
      · rw [show eqD (D.int ↑xs.length) (D.int ↑ys.length) = true by simp [eqD, l]]
        exact q ⟨xs, ys, rfl, rfl, cx, cy, l⟩
      · rw [show eqD (D.int ↑xs.length) (D.int ↑ys.length) = false by simp [eqD]; omega]
        exact z fun ⟨xs', ys', e1, e2, c1, c2, l'⟩ => by
          have e1 := cv_inj e1
          have e2 := cv_inj e2
          subst e1 e2
          exact l l'
theorem conv_ev {xs ys : List Int} {h : Nat} (l : xs.length = ys.length) (hh : h < xs.length) (l60 : xs.length ≤ 1000) {Q : D → Prop} (q : Q (.int (mn ((List.range (h + 1)).map fun a => cat xs a + cat ys (h - a))))) :
    binW Operator.Add (D.int (h : Nat)) (D.int 1) fun d => srcW It.rng [d] fun xs_1 => xs_1.length ≤ 1000000 ∧ Wk.compW (fun x_1 o => idxW (cv xs) (Wk.fr x_1) fun x_2 => binW Operator.Sub (D.int (h : Nat)) (Wk.fr x_1) fun y => idxW (cv ys) y fun y => binW Operator.Add x_2 y fun y => o (some y)) xs_1 fun r => bltW B.min [D.lst true r] Q := by
  simp only [wps, wp, ev, evs, evO, evC, evAnd, evOr, entry, List.map_cons, List.map_nil, List.length_cons, List.length_nil, endPost, List.getElem?_cons_zero, List.getElem?_cons_succ, ex_some, ex_bl, ex_int, ex_st, ex_eq, List.cons_append, List.nil_append, Wk.fr, Wk.frs, b_add, b_sub, b_mul, b_div, b_mod, b_pow, b_addT, b_addL, b_mulL, b_mulT, q_lt, q_le, q_gt, q_ge, q_eq, q_ne, q_isN, q_isnN, i_tup, i_lst, l_tup, l_lst, l_scr, r_tup, r_lst, a_lenT, a_lenL, a_abs, a_int, a_tupT, a_tupL, a_lstT, a_lstL, a_min2, a_max2, a_sum, a_all, a_any, s_seqT, s_seqL, s_rng, s_rng2, s_enm, s_zipT, s_zipL, t_name, t_tupT, t_tupL, t_nil, t_cons, u_bl, u_int, u_tup, u_lst, isiD, ty_int_int, ty_int_bool, ty_int_str, ty_int_tuple, ty_int_list, ty_int_dict, ty_bool_int, ty_bool_bool, ty_bool_str, ty_bool_tuple, ty_bool_list, ty_bool_dict, ty_str_int, ty_str_bool, ty_str_str, ty_str_tuple, ty_str_list, ty_str_dict, ty_tuple_int, ty_tuple_bool, ty_tuple_str, ty_tuple_tuple, ty_tuple_list, ty_tuple_dict, ty_list_int, ty_list_bool, ty_list_str, ty_list_tuple, ty_list_list, ty_list_dict, ty_dict_int, ty_dict_bool, ty_dict_str, ty_dict_tuple, ty_dict_list, ty_dict_dict, Bool.not_true, Bool.not_false, Bool.or_false, Bool.false_or, Bool.or_true, Bool.true_or, List.set_cons_zero, List.set_cons_succ, wipeE,  Nat.zero_add, Nat.reduceAdd, Nat.reduceSub, List.replicate_succ, List.replicate_zero, Option.bind_some, D.bl.injEq, D.int.injEq, reduceCtorEq, Option.some.injEq, if_true, Int.toNat_natCast, at5_0, at5_1, at5_2, at5_3, at5_4, ex_own, ex_ix, ix5_1, ix5_2, ix5_3, ix5_4, ex_own', ex_ix', ne0_1, ne0_2, ne0_3, ne0_4, true_and, Option.map_some, if_false, decide_eq_true_eq, n_non, n_bl, n_int, n_str, n_tup, n_lst, Bool.false_eq_true]
  refine ⟨by omega, by omega, by simp; omega, ?_⟩
  rw [show ((h : Int) + 1).toNat = h + 1 by omega]
  refine compW_of (g := fun a : Nat => .int (cat xs a + cat ys (h - a))) (fun a ha R hR => ?_) (a_min (ints_mapf _ _) (by simp) q)
  have ha' : a ≤ h := by simpa [Nat.lt_succ_iff] using ha
  simp only [wps, wp, ev, evs, evO, evC, evAnd, evOr, entry, List.map_cons, List.map_nil, List.length_cons, List.length_nil, endPost, List.getElem?_cons_zero, List.getElem?_cons_succ, ex_some, ex_bl, ex_int, ex_st, ex_eq, List.cons_append, List.nil_append, Wk.fr, Wk.frs, b_add, b_sub, b_mul, b_div, b_mod, b_pow, b_addT, b_addL, b_mulL, b_mulT, q_lt, q_le, q_gt, q_ge, q_eq, q_ne, q_isN, q_isnN, i_tup, i_lst, l_tup, l_lst, l_scr, r_tup, r_lst, a_lenT, a_lenL, a_abs, a_int, a_tupT, a_tupL, a_lstT, a_lstL, a_min2, a_max2, a_sum, a_all, a_any, s_seqT, s_seqL, s_rng, s_rng2, s_enm, s_zipT, s_zipL, t_name, t_tupT, t_tupL, t_nil, t_cons, u_bl, u_int, u_tup, u_lst, isiD, ty_int_int, ty_int_bool, ty_int_str, ty_int_tuple, ty_int_list, ty_int_dict, ty_bool_int, ty_bool_bool, ty_bool_str, ty_bool_tuple, ty_bool_list, ty_bool_dict, ty_str_int, ty_str_bool, ty_str_str, ty_str_tuple, ty_str_list, ty_str_dict, ty_tuple_int, ty_tuple_bool, ty_tuple_str, ty_tuple_tuple, ty_tuple_list, ty_tuple_dict, ty_list_int, ty_list_bool, ty_list_str, ty_list_tuple, ty_list_list, ty_list_dict, ty_dict_int, ty_dict_bool, ty_dict_str, ty_dict_tuple, ty_dict_list, ty_dict_dict, Bool.not_true, Bool.not_false, Bool.or_false, Bool.false_or, Bool.or_true, Bool.true_or, List.set_cons_zero, List.set_cons_succ, wipeE,  Nat.zero_add, Nat.reduceAdd, Nat.reduceSub, List.replicate_succ, List.replicate_zero, Option.bind_some, D.bl.injEq, D.int.injEq, reduceCtorEq, Option.some.injEq, if_true, Int.toNat_natCast, at5_0, at5_1, at5_2, at5_3, at5_4, ex_own, ex_ix, ix5_1, ix5_2, ix5_3, ix5_4, ex_own', ex_ix', ne0_1, ne0_2, ne0_3, ne0_4, true_and, Option.map_some, if_false, decide_eq_true_eq, n_non, n_bl, n_int, n_str, n_tup, n_lst, Bool.false_eq_true]
  refine ⟨_, at_cat (by omega), ?_⟩
  rw [show (h : Int) - (a : Int) = ((h - a : Nat) : Int) by omega]
  exact ⟨_, at_cat (by omega), hR⟩
theorem conv_map (xs ys : List Int) : ((List.range xs.length).map fun h => D.int (mn ((List.range (h + 1)).map fun a => cat xs a + cat ys (h - a)))) = (conv xs ys).map D.int := by
  simp [conv]
theorem m4 (h3 : C 3 = c3) : ∀ ds Q Z, ds.length = 2 → Wk.frs ds = ds → cTwo conv ds Q Z → wps (GG C k S) s_spread (entry N_spread ds) (endPost Q Z) := by
  rintro ds Q Z hl hf ⟨a, b, rfl, q, z⟩
  simp only [Wk.frs, List.cons.injEq, and_true] at hf
  simp only [s_spread, N_spread, hf.1, hf.2, h3, wps, wp, ev, evs, evO, evC, evAnd, evOr, entry, List.map_cons, List.map_nil, List.length_cons, List.length_nil, endPost, List.getElem?_cons_zero, List.getElem?_cons_succ, ex_some, ex_bl, ex_int, ex_st, ex_eq, List.cons_append, List.nil_append, Wk.fr, Wk.frs, b_add, b_sub, b_mul, b_div, b_mod, b_pow, b_addT, b_addL, b_mulL, b_mulT, q_lt, q_le, q_gt, q_ge, q_eq, q_ne, q_isN, q_isnN, i_tup, i_lst, l_tup, l_lst, l_scr, r_tup, r_lst, a_lenT, a_lenL, a_abs, a_int, a_tupT, a_tupL, a_lstT, a_lstL, a_min2, a_max2, a_sum, a_all, a_any, s_seqT, s_seqL, s_rng, s_rng2, s_enm, s_zipT, s_zipL, t_name, t_tupT, t_tupL, t_nil, t_cons, u_bl, u_int, u_tup, u_lst, isiD, ty_int_int, ty_int_bool, ty_int_str, ty_int_tuple, ty_int_list, ty_int_dict, ty_bool_int, ty_bool_bool, ty_bool_str, ty_bool_tuple, ty_bool_list, ty_bool_dict, ty_str_int, ty_str_bool, ty_str_str, ty_str_tuple, ty_str_list, ty_str_dict, ty_tuple_int, ty_tuple_bool, ty_tuple_str, ty_tuple_tuple, ty_tuple_list, ty_tuple_dict, ty_list_int, ty_list_bool, ty_list_str, ty_list_tuple, ty_list_list, ty_list_dict, ty_dict_int, ty_dict_bool, ty_dict_str, ty_dict_tuple, ty_dict_list, ty_dict_dict, Bool.not_true, Bool.not_false, Bool.or_false, Bool.false_or, Bool.or_true, Bool.true_or, List.set_cons_zero, List.set_cons_succ, wipeE,  Nat.zero_add, Nat.reduceAdd, Nat.reduceSub, List.replicate_succ, List.replicate_zero, Option.bind_some, D.bl.injEq, D.int.injEq, reduceCtorEq, Option.some.injEq, if_true, Int.toNat_natCast, at5_0, at5_1, at5_2, at5_3, at5_4, ex_own, ex_ix, ix5_1, ix5_2, ix5_3, ix5_4, ex_own', ex_ix', ne0_1, ne0_2, ne0_3, ne0_4, true_and, Option.map_some, if_false, decide_eq_true_eq, n_non, n_bl, n_int, n_str, n_tup, n_lst, Bool.false_eq_true]
  refine mc_iff ⟨a, b, rfl, fun ok => ?_, fun no => z no⟩
  obtain ⟨xs, ys, rfl, rfl, cx, cy, l⟩ := ok
  simp only [wps, wp, ev, evs, evO, evC, evAnd, evOr, entry, List.map_cons, List.map_nil, List.length_cons, List.length_nil, endPost, List.getElem?_cons_zero, List.getElem?_cons_succ, ex_some, ex_bl, ex_int, ex_st, ex_eq, List.cons_append, List.nil_append, Wk.fr, Wk.frs, b_add, b_sub, b_mul, b_div, b_mod, b_pow, b_addT, b_addL, b_mulL, b_mulT, q_lt, q_le, q_gt, q_ge, q_eq, q_ne, q_isN, q_isnN, i_tup, i_lst, l_tup, l_lst, l_scr, r_tup, r_lst, a_lenT, a_lenL, a_abs, a_int, a_tupT, a_tupL, a_lstT, a_lstL, a_min2, a_max2, a_sum, a_all, a_any, s_seqT, s_seqL, s_rng, s_rng2, s_enm, s_zipT, s_zipL, t_name, t_tupT, t_tupL, t_nil, t_cons, u_bl, u_int, u_tup, u_lst, isiD, ty_int_int, ty_int_bool, ty_int_str, ty_int_tuple, ty_int_list, ty_int_dict, ty_bool_int, ty_bool_bool, ty_bool_str, ty_bool_tuple, ty_bool_list, ty_bool_dict, ty_str_int, ty_str_bool, ty_str_str, ty_str_tuple, ty_str_list, ty_str_dict, ty_tuple_int, ty_tuple_bool, ty_tuple_str, ty_tuple_tuple, ty_tuple_list, ty_tuple_dict, ty_list_int, ty_list_bool, ty_list_str, ty_list_tuple, ty_list_list, ty_list_dict, ty_dict_int, ty_dict_bool, ty_dict_str, ty_dict_tuple, ty_dict_list, ty_dict_dict, Bool.not_true, Bool.not_false, Bool.or_false, Bool.false_or, Bool.or_true, Bool.true_or, List.set_cons_zero, List.set_cons_succ, wipeE,  Nat.zero_add, Nat.reduceAdd, Nat.reduceSub, List.replicate_succ, List.replicate_zero, Option.bind_some, D.bl.injEq, D.int.injEq, reduceCtorEq, Option.some.injEq, if_true, Int.toNat_natCast, at5_0, at5_1, at5_2, at5_3, at5_4, ex_own, ex_ix, ix5_1, ix5_2, ix5_3, ix5_4, ex_own', ex_ix', ne0_1, ne0_2, ne0_3, ne0_4, true_and, Option.map_some, if_false, decide_eq_true_eq, n_non, n_bl, n_int, n_str, n_tup, n_lst, Bool.false_eq_true, List.length_map, List.length_range]
  have lx := cx.len
  refine ⟨by omega, by omega, by omega, compW_of (fun h hh R hR => conv_ev l (by simpa using hh) (by omega) hR) ?_⟩
  rw [conv_map]
  exact q xs ys rfl rfl cx cy l
theorem unc_ev {xs ys : List Int} {h : Nat} (l : xs.length = ys.length) (hh : h < xs.length) (l60 : xs.length ≤ 1000) {Q : D → Prop} (q : Q (.int (mx (0 :: (List.range (xs.length - h)).map fun a => cat xs (h + a) - cat ys a)))) :
    binW Operator.Sub (D.int ↑xs.length) (D.int (h : Nat)) fun d => srcW It.rng [d] fun xs_1 => xs_1.length ≤ 1000000 ∧ Wk.compW (fun x_1 o => binW Operator.Add (D.int (h : Nat)) (Wk.fr x_1) fun y => idxW (cv xs) y fun x => idxW (cv ys) (Wk.fr x_1) fun y => binW Operator.Sub x y fun y => o (some y)) xs_1
      fun r => 1 + r.length ≤ sizeLine ∧ bltW B.max [D.lst true (D.int 0 :: r)] Q := by
  simp only [wps, wp, ev, evs, evO, evC, evAnd, evOr, entry, List.map_cons, List.map_nil, List.length_cons, List.length_nil, endPost, List.getElem?_cons_zero, List.getElem?_cons_succ, ex_some, ex_bl, ex_int, ex_st, ex_eq, List.cons_append, List.nil_append, Wk.fr, Wk.frs, b_add, b_sub, b_mul, b_div, b_mod, b_pow, b_addT, b_addL, b_mulL, b_mulT, q_lt, q_le, q_gt, q_ge, q_eq, q_ne, q_isN, q_isnN, i_tup, i_lst, l_tup, l_lst, l_scr, r_tup, r_lst, a_lenT, a_lenL, a_abs, a_int, a_tupT, a_tupL, a_lstT, a_lstL, a_min2, a_max2, a_sum, a_all, a_any, s_seqT, s_seqL, s_rng, s_rng2, s_enm, s_zipT, s_zipL, t_name, t_tupT, t_tupL, t_nil, t_cons, u_bl, u_int, u_tup, u_lst, isiD, ty_int_int, ty_int_bool, ty_int_str, ty_int_tuple, ty_int_list, ty_int_dict, ty_bool_int, ty_bool_bool, ty_bool_str, ty_bool_tuple, ty_bool_list, ty_bool_dict, ty_str_int, ty_str_bool, ty_str_str, ty_str_tuple, ty_str_list, ty_str_dict, ty_tuple_int, ty_tuple_bool, ty_tuple_str, ty_tuple_tuple, ty_tuple_list, ty_tuple_dict, ty_list_int, ty_list_bool, ty_list_str, ty_list_tuple, ty_list_list, ty_list_dict, ty_dict_int, ty_dict_bool, ty_dict_str, ty_dict_tuple, ty_dict_list, ty_dict_dict, Bool.not_true, Bool.not_false, Bool.or_false, Bool.false_or, Bool.or_true, Bool.true_or, List.set_cons_zero, List.set_cons_succ, wipeE,  Nat.zero_add, Nat.reduceAdd, Nat.reduceSub, List.replicate_succ, List.replicate_zero, Option.bind_some, D.bl.injEq, D.int.injEq, reduceCtorEq, Option.some.injEq, if_true, Int.toNat_natCast, at5_0, at5_1, at5_2, at5_3, at5_4, ex_own, ex_ix, ix5_1, ix5_2, ix5_3, ix5_4, ex_own', ex_ix', ne0_1, ne0_2, ne0_3, ne0_4, true_and, Option.map_some, if_false, decide_eq_true_eq, n_non, n_bl, n_int, n_str, n_tup, n_lst, Bool.false_eq_true]
  refine ⟨by omega, by omega, by simp; omega, ?_⟩
  rw [show ((xs.length : Int) - (h : Int)).toNat = xs.length - h by omega]
  refine compW_of (g := fun a : Nat => .int (cat xs (h + a) - cat ys a)) (fun a ha R hR => ?_) ⟨by rw [sizeLine_eq]; simp; omega, a_max (ns := 0 :: (List.range (xs.length - h)).map fun a => cat xs (h + a) - cat ys a) (by rw [ints?, ints_mapf]; rfl) (by simp) q⟩
  have ha' : a < xs.length - h := by simpa using ha
  simp only [wps, wp, ev, evs, evO, evC, evAnd, evOr, entry, List.map_cons, List.map_nil, List.length_cons, List.length_nil, endPost, List.getElem?_cons_zero, List.getElem?_cons_succ, ex_some, ex_bl, ex_int, ex_st, ex_eq, List.cons_append, List.nil_append, Wk.fr, Wk.frs, b_add, b_sub, b_mul, b_div, b_mod, b_pow, b_addT, b_addL, b_mulL, b_mulT, q_lt, q_le, q_gt, q_ge, q_eq, q_ne, q_isN, q_isnN, i_tup, i_lst, l_tup, l_lst, l_scr, r_tup, r_lst, a_lenT, a_lenL, a_abs, a_int, a_tupT, a_tupL, a_lstT, a_lstL, a_min2, a_max2, a_sum, a_all, a_any, s_seqT, s_seqL, s_rng, s_rng2, s_enm, s_zipT, s_zipL, t_name, t_tupT, t_tupL, t_nil, t_cons, u_bl, u_int, u_tup, u_lst, isiD, ty_int_int, ty_int_bool, ty_int_str, ty_int_tuple, ty_int_list, ty_int_dict, ty_bool_int, ty_bool_bool, ty_bool_str, ty_bool_tuple, ty_bool_list, ty_bool_dict, ty_str_int, ty_str_bool, ty_str_str, ty_str_tuple, ty_str_list, ty_str_dict, ty_tuple_int, ty_tuple_bool, ty_tuple_str, ty_tuple_tuple, ty_tuple_list, ty_tuple_dict, ty_list_int, ty_list_bool, ty_list_str, ty_list_tuple, ty_list_list, ty_list_dict, ty_dict_int, ty_dict_bool, ty_dict_str, ty_dict_tuple, ty_dict_list, ty_dict_dict, Bool.not_true, Bool.not_false, Bool.or_false, Bool.false_or, Bool.or_true, Bool.true_or, List.set_cons_zero, List.set_cons_succ, wipeE,  Nat.zero_add, Nat.reduceAdd, Nat.reduceSub, List.replicate_succ, List.replicate_zero, Option.bind_some, D.bl.injEq, D.int.injEq, reduceCtorEq, Option.some.injEq, if_true, Int.toNat_natCast, at5_0, at5_1, at5_2, at5_3, at5_4, ex_own, ex_ix, ix5_1, ix5_2, ix5_3, ix5_4, ex_own', ex_ix', ne0_1, ne0_2, ne0_3, ne0_4, true_and, Option.map_some, if_false, decide_eq_true_eq, n_non, n_bl, n_int, n_str, n_tup, n_lst, Bool.false_eq_true]
  rw [show (h : Int) + (a : Int) = ((h + a : Nat) : Int) by omega]
  refine ⟨_, at_cat (by omega), ?_⟩
  exact ⟨_, at_cat (by omega), hR⟩
theorem unc_map (xs ys : List Int) : ((List.range xs.length).map fun h => D.int (mx (0 :: (List.range (xs.length - h)).map fun a => cat xs (h + a) - cat ys a))) = (unc xs ys).map D.int := by
  simp [unc]
/-! ## the law's own defs -/
def cAny : Con := fun ds Q _ => ∃ b xs, ds = [.hand, .lst b xs] ∧ xs ≠ [] ∧ xs.length < 1073741824 ∧ ∀ x ∈ xs, Q x
def lists (d : Nat) : D → Prop := match d with
  | 0 => fun a => ∃ i, a = .int i
  | d + 1 => fun a => (∃ i, a = .int i) ∨ ∃ xs, (a = .tup xs ∨ ∃ b, a = .lst b xs) ∧ xs.length ≤ 1000000 ∧ ∀ x ∈ xs, lists d x
def cIs (d : Nat) : Con := fun ds Q _ => ∃ a, ds = [a, a] ∧ lists d a ∧ Q (.bl true)
def UpTo (B : Int) (xs : List Int) : Prop := (∀ x ∈ xs, 0 ≤ x ∧ x ≤ B) ∧ ∀ p ∈ xs.zip (xs.drop 1), p.1 ≤ p.2
def cCurve : Con := fun ds Q _ => ∃ n : Nat, ds = [.hand, .int n, .int 9] ∧ n ≤ 12 ∧ ∀ xs, xs.length = n → UpTo 200 xs → Q (cv xs)
def cOne (f : List Int → List Int → List Int) : Con := fun ds Q _ => ∃ xs ys, ds = [cv xs, cv ys] ∧ xs.length = ys.length ∧ xs.length ≤ 60 ∧ Q (cv (f xs ys))
def leB (xs ys : List Int) : Bool := (xs.zip ys).all fun p => decide (p.1 ≤ p.2)
def cLe : Con := fun ds Q _ => ∃ xs ys, ds = [cv xs, cv ys] ∧ xs.length ≤ 60 ∧ Q (.bl (leB xs ys))
def cRight : Con := fun ds Q _ => ds = [.hand] ∧ Q (.bl true)
theorem m6 : ∀ ds Q Z, ds.length = 1 → Wk.frs ds = ds → cHand ds Q Z → wps (GG C k S) s__law_hand (entry N__law_hand ds) (endPost Q Z) := by
  rintro ds Q Z hl hf ⟨ns, rfl, hn, q⟩
  have hlen : (Wk.cutD ns none (some 63)).length ≤ 1000000 := by
    unfold Wk.cutD
    rw [List.length_take, List.length_drop]
    omega
  simp only [s__law_hand, N__law_hand, lcE, wps, wp, ev, evs, evO, evC, evAnd, evOr, entry, List.map_cons, List.map_nil, List.length_cons, List.length_nil, endPost, List.getElem?_cons_zero, List.getElem?_cons_succ, ex_some, ex_bl, ex_int, ex_st, ex_eq, List.cons_append, List.nil_append, Wk.fr, Wk.frs, b_add, b_sub, b_mul, b_div, b_mod, b_pow, b_addT, b_addL, b_mulL, b_mulT, q_lt, q_le, q_gt, q_ge, q_eq, q_ne, q_isN, q_isnN, i_tup, i_lst, l_tup, l_lst, l_scr, r_tup, r_lst, a_lenT, a_lenL, a_abs, a_int, a_tupT, a_tupL, a_lstT, a_lstL, a_min2, a_max2, a_sum, a_all, a_any, s_seqT, s_seqL, s_rng, s_rng2, s_enm, s_zipT, s_zipL, t_name, t_tupT, t_tupL, t_nil, t_cons, u_bl, u_int, u_tup, u_lst, isiD, ty_int_int, ty_int_bool, ty_int_str, ty_int_tuple, ty_int_list, ty_int_dict, ty_bool_int, ty_bool_bool, ty_bool_str, ty_bool_tuple, ty_bool_list, ty_bool_dict, ty_str_int, ty_str_bool, ty_str_str, ty_str_tuple, ty_str_list, ty_str_dict, ty_tuple_int, ty_tuple_bool, ty_tuple_str, ty_tuple_tuple, ty_tuple_list, ty_tuple_dict, ty_list_int, ty_list_bool, ty_list_str, ty_list_tuple, ty_list_list, ty_list_dict, ty_dict_int, ty_dict_bool, ty_dict_str, ty_dict_tuple, ty_dict_list, ty_dict_dict, Bool.not_true, Bool.not_false, Bool.or_false, Bool.false_or, Bool.or_true, Bool.true_or, List.set_cons_zero, List.set_cons_succ, wipeE,  Nat.zero_add, Nat.reduceAdd, Nat.reduceSub, List.replicate_succ, List.replicate_zero, Option.bind_some, D.bl.injEq, D.int.injEq, reduceCtorEq, Option.some.injEq, if_true, Int.toNat_natCast, at5_0, at5_1, at5_2, at5_3, at5_4, ex_own, ex_ix, ix5_1, ix5_2, ix5_3, ix5_4, ex_own', ex_ix', ne0_1, ne0_2, ne0_3, ne0_4, true_and, Option.map_some, if_false, decide_eq_true_eq, n_non, n_bl, n_int, n_str, n_tup, n_lst, Bool.false_eq_true, frs_int, List.length_map]
  refine ⟨hlen, compW_of (g := fun i : Int => .int (if i < 0 then -i else i)) (fun i hi R hR => hR) ?_⟩
  have e : ((Wk.cutD ns none (some 63)).map fun i : Int => D.int (if i < 0 then -i else i)) = ((Wk.cutD ns none (some 63)).map fun i : Int => if i < 0 then -i else i).map D.int := by simp
  rw [e]
  refine ⟨cls_int _, ?_, ?_⟩
  · left; omega
  · rw [frs_int]
    refine q false _ 0 0 _ 0 ⟨fun x hx => ?_, by omega, by omega, by omega, by omega⟩
    obtain ⟨y, _, rfl⟩ := List.mem_map.mp hx
    split <;> omega
theorem m8 (h7 : C 12 = cDraw) : ∀ ds Q Z, ds.length = 2 → Wk.frs ds = ds → cAny ds Q Z → wps (GG C k S) s__law_any (entry N__law_any ds) (endPost Q Z) := by
  rintro ds Q Z hl hf ⟨b, xs, rfl, hx, hn, q⟩
  simp only [Wk.frs, Wk.fr, List.cons.injEq, and_true, D.lst.injEq, true_and] at hf
  simp only [s__law_any, N__law_any, h7, hf.1, hf.2, wps, wp, ev, evs, evO, evC, evAnd, evOr, entry, List.map_cons, List.map_nil, List.length_cons, List.length_nil, endPost, List.getElem?_cons_zero, List.getElem?_cons_succ, ex_some, ex_bl, ex_int, ex_st, ex_eq, List.cons_append, List.nil_append, Wk.fr, Wk.frs, b_add, b_sub, b_mul, b_div, b_mod, b_pow, b_addT, b_addL, b_mulL, b_mulT, q_lt, q_le, q_gt, q_ge, q_eq, q_ne, q_isN, q_isnN, i_tup, i_lst, l_tup, l_lst, l_scr, r_tup, r_lst, a_lenT, a_lenL, a_abs, a_int, a_tupT, a_tupL, a_lstT, a_lstL, a_min2, a_max2, a_sum, a_all, a_any, s_seqT, s_seqL, s_rng, s_rng2, s_enm, s_zipT, s_zipL, t_name, t_tupT, t_tupL, t_nil, t_cons, u_bl, u_int, u_tup, u_lst, isiD, ty_int_int, ty_int_bool, ty_int_str, ty_int_tuple, ty_int_list, ty_int_dict, ty_bool_int, ty_bool_bool, ty_bool_str, ty_bool_tuple, ty_bool_list, ty_bool_dict, ty_str_int, ty_str_bool, ty_str_str, ty_str_tuple, ty_str_list, ty_str_dict, ty_tuple_int, ty_tuple_bool, ty_tuple_str, ty_tuple_tuple, ty_tuple_list, ty_tuple_dict, ty_list_int, ty_list_bool, ty_list_str, ty_list_tuple, ty_list_list, ty_list_dict, ty_dict_int, ty_dict_bool, ty_dict_str, ty_dict_tuple, ty_dict_list, ty_dict_dict, Bool.not_true, Bool.not_false, Bool.or_false, Bool.false_or, Bool.or_true, Bool.true_or, List.set_cons_zero, List.set_cons_succ, wipeE,  Nat.zero_add, Nat.reduceAdd, Nat.reduceSub, List.replicate_succ, List.replicate_zero, Option.bind_some, D.bl.injEq, D.int.injEq, reduceCtorEq, Option.some.injEq, if_true, Int.toNat_natCast, at5_0, at5_1, at5_2, at5_3, at5_4, ex_own, ex_ix, ix5_1, ix5_2, ix5_3, ix5_4, ex_own', ex_ix', ne0_1, ne0_2, ne0_3, ne0_4, true_and, Option.map_some, if_false, decide_eq_true_eq, n_non, n_bl, n_int, n_str, n_tup, n_lst, Bool.false_eq_true]
  have hp : 0 < xs.length := List.length_pos_iff.mpr hx
  refine mc_iff ⟨xs.length, rfl, by omega, by omega, fun r h0 h1 => ?_⟩
  obtain ⟨m, rfl⟩ := Int.eq_ofNat_of_zero_le h0
  simp only [wps, wp, ev, evs, evO, evC, evAnd, evOr, entry, List.map_cons, List.map_nil, List.length_cons, List.length_nil, endPost, List.getElem?_cons_zero, List.getElem?_cons_succ, ex_some, ex_bl, ex_int, ex_st, ex_eq, List.cons_append, List.nil_append, Wk.fr, Wk.frs, b_add, b_sub, b_mul, b_div, b_mod, b_pow, b_addT, b_addL, b_mulL, b_mulT, q_lt, q_le, q_gt, q_ge, q_eq, q_ne, q_isN, q_isnN, i_tup, i_lst, l_tup, l_lst, l_scr, r_tup, r_lst, a_lenT, a_lenL, a_abs, a_int, a_tupT, a_tupL, a_lstT, a_lstL, a_min2, a_max2, a_sum, a_all, a_any, s_seqT, s_seqL, s_rng, s_rng2, s_enm, s_zipT, s_zipL, t_name, t_tupT, t_tupL, t_nil, t_cons, u_bl, u_int, u_tup, u_lst, isiD, ty_int_int, ty_int_bool, ty_int_str, ty_int_tuple, ty_int_list, ty_int_dict, ty_bool_int, ty_bool_bool, ty_bool_str, ty_bool_tuple, ty_bool_list, ty_bool_dict, ty_str_int, ty_str_bool, ty_str_str, ty_str_tuple, ty_str_list, ty_str_dict, ty_tuple_int, ty_tuple_bool, ty_tuple_str, ty_tuple_tuple, ty_tuple_list, ty_tuple_dict, ty_list_int, ty_list_bool, ty_list_str, ty_list_tuple, ty_list_list, ty_list_dict, ty_dict_int, ty_dict_bool, ty_dict_str, ty_dict_tuple, ty_dict_list, ty_dict_dict, Bool.not_true, Bool.not_false, Bool.or_false, Bool.false_or, Bool.or_true, Bool.true_or, List.set_cons_zero, List.set_cons_succ, wipeE,  Nat.zero_add, Nat.reduceAdd, Nat.reduceSub, List.replicate_succ, List.replicate_zero, Option.bind_some, D.bl.injEq, D.int.injEq, reduceCtorEq, Option.some.injEq, if_true, Int.toNat_natCast, at5_0, at5_1, at5_2, at5_3, at5_4, ex_own, ex_ix, ix5_1, ix5_2, ix5_3, ix5_4, ex_own', ex_ix', ne0_1, ne0_2, ne0_3, ne0_4, true_and, Option.map_some, if_false, decide_eq_true_eq, n_non, n_bl, n_int, n_str, n_tup, n_lst, Bool.false_eq_true]
  have hm : m < xs.length := by omega
  exact ⟨_, atI_nat hm, q _ (List.getElem_mem hm)⟩
theorem zip_snoc (xs : List Int) (x : Int) (hx : xs ≠ []) : (xs ++ [x]).zip ((xs ++ [x]).drop 1) = xs.zip (xs.drop 1) ++ [(xs.getLast hx, x)] := by
  induction xs with
  | nil => exact absurd rfl hx
  | cons a xs ih =>
    cases xs with
    | nil => rfl
    | cons b xs =>
      have := ih (by simp)
      simp only [List.cons_append, List.drop_one, List.tail_cons, List.zip_cons_cons, List.getLast_cons_cons] at this ⊢
      rw [this]
theorem m10 (h7 : C 12 = cDraw) (h8 : C 13 = cAny) : ∀ ds Q Z, ds.length = 3 → Wk.frs ds = ds → cCurve ds Q Z → wps (GG C k S) s__law_curve (entry N__law_curve ds) (endPost Q Z) := by
  rintro ds Q Z hl hf ⟨n, rfl, hn, q⟩
  have main : ∀ y : Int, 0 ≤ y → y < 9 → ∃ I : Nat → Env' → Prop, I 0 [some D.hand, some (D.int ↑n), some (D.int 9), none, some (D.lst true []), some (.int y)] ∧
      (∀ env', I (List.map (fun i : Nat => D.int (i : Int)) (List.range n)).length env' → wps (GG C k S) [.retA (.blt .tuple [.var 4])] env' (endPost Q Z)) ∧
      ∀ (i : Nat) (d : D) (env' : Env'), (List.map (fun i : Nat => D.int (i : Int)) (List.range n))[i]? = some d → I i env' → ∃ env2, bindT (.name 3) (Wk.fr d) env' = some env2 ∧
        wps (GG C k S) [.app 4 (.var 5), .asg (.name 5) (.bin .Add (.var 5) (.call 13 [.var 0, .lst [.int 0, .int 0, .int 1, .int 2, .call 12 [.var 0, .var 2]]]))] env2 { nx := I (i + 1), rt := (endPost Q Z).rt, bk := fun _ => False, ct := I (i + 1), ex := (endPost Q Z).ex } := by
    intro y hy0 hy9
    refine ⟨fun i env' => ∃ (xs : List Int) (h : Int) (z : Option D), env' = [some D.hand, some (D.int ↑n), some (D.int 9), z, some (D.lst true (xs.map D.int)), some (.int h)] ∧ xs.length = i ∧ i ≤ n ∧ 0 ≤ h ∧ h ≤ 9 + 9 * i ∧ (∀ x ∈ xs, 0 ≤ x ∧ x ≤ h) ∧ ∀ p ∈ xs.zip (xs.drop 1), p.1 ≤ p.2, ⟨[], y, none, rfl, rfl, by omega, hy0, by omega, by simp, by simp⟩, ?_, ?_⟩
    · rintro env' ⟨xs, h, z, rfl, hlen, _, h0, h9, hb, hu⟩
      simp only [List.length_map, List.length_range] at hlen h9
      simp only [wps, wp, ev, evs, evO, evC, evAnd, evOr, entry, List.map_cons, List.map_nil, List.length_cons, List.length_nil, endPost, List.getElem?_cons_zero, List.getElem?_cons_succ, ex_some, ex_bl, ex_int, ex_st, ex_eq, List.cons_append, List.nil_append, Wk.fr, Wk.frs, b_add, b_sub, b_mul, b_div, b_mod, b_pow, b_addT, b_addL, b_mulL, b_mulT, q_lt, q_le, q_gt, q_ge, q_eq, q_ne, q_isN, q_isnN, i_tup, i_lst, l_tup, l_lst, l_scr, r_tup, r_lst, a_lenT, a_lenL, a_abs, a_int, a_tupT, a_tupL, a_lstT, a_lstL, a_min2, a_max2, a_sum, a_all, a_any, s_seqT, s_seqL, s_rng, s_rng2, s_enm, s_zipT, s_zipL, t_name, t_tupT, t_tupL, t_nil, t_cons, u_bl, u_int, u_tup, u_lst, isiD, ty_int_int, ty_int_bool, ty_int_str, ty_int_tuple, ty_int_list, ty_int_dict, ty_bool_int, ty_bool_bool, ty_bool_str, ty_bool_tuple, ty_bool_list, ty_bool_dict, ty_str_int, ty_str_bool, ty_str_str, ty_str_tuple, ty_str_list, ty_str_dict, ty_tuple_int, ty_tuple_bool, ty_tuple_str, ty_tuple_tuple, ty_tuple_list, ty_tuple_dict, ty_list_int, ty_list_bool, ty_list_str, ty_list_tuple, ty_list_list, ty_list_dict, ty_dict_int, ty_dict_bool, ty_dict_str, ty_dict_tuple, ty_dict_list, ty_dict_dict, Bool.not_true, Bool.not_false, Bool.or_false, Bool.false_or, Bool.or_true, Bool.true_or, List.set_cons_zero, List.set_cons_succ, wipeE,  Nat.zero_add, Nat.reduceAdd, Nat.reduceSub, List.replicate_succ, List.replicate_zero, Option.bind_some, D.bl.injEq, D.int.injEq, reduceCtorEq, Option.some.injEq, if_true, Int.toNat_natCast, at5_0, at5_1, at5_2, at5_3, at5_4, ex_own, ex_ix, ix5_1, ix5_2, ix5_3, ix5_4, ex_own', ex_ix', ne0_1, ne0_2, ne0_3, ne0_4, true_and, Option.map_some, if_false, decide_eq_true_eq, n_non, n_bl, n_int, n_str, n_tup, n_lst, Bool.false_eq_true, frs_int]
      exact q xs hlen ⟨fun x hx => ⟨(hb x hx).1, by have := (hb x hx).2; omega⟩, hu⟩
    · rintro i d env' hd ⟨xs, h, z, rfl, hlen, hin, h0, h9, hb, hu⟩
      have hi : i < n := by
        rcases Nat.lt_or_ge i n with h | h
        · exact h
        · rw [List.getElem?_eq_none (by simpa using h)] at hd; cases hd
      refine ⟨_, t_name _ _ _, ?_⟩
      simp only [wps, wp, ev, evs, evO, evC, evAnd, evOr, entry, List.map_cons, List.map_nil, List.length_cons, List.length_nil, endPost, List.getElem?_cons_zero, List.getElem?_cons_succ, ex_some, ex_bl, ex_int, ex_st, ex_eq, List.cons_append, List.nil_append, Wk.fr, Wk.frs, b_add, b_sub, b_mul, b_div, b_mod, b_pow, b_addT, b_addL, b_mulL, b_mulT, q_lt, q_le, q_gt, q_ge, q_eq, q_ne, q_isN, q_isnN, i_tup, i_lst, l_tup, l_lst, l_scr, r_tup, r_lst, a_lenT, a_lenL, a_abs, a_int, a_tupT, a_tupL, a_lstT, a_lstL, a_min2, a_max2, a_sum, a_all, a_any, s_seqT, s_seqL, s_rng, s_rng2, s_enm, s_zipT, s_zipL, t_name, t_tupT, t_tupL, t_nil, t_cons, u_bl, u_int, u_tup, u_lst, isiD, ty_int_int, ty_int_bool, ty_int_str, ty_int_tuple, ty_int_list, ty_int_dict, ty_bool_int, ty_bool_bool, ty_bool_str, ty_bool_tuple, ty_bool_list, ty_bool_dict, ty_str_int, ty_str_bool, ty_str_str, ty_str_tuple, ty_str_list, ty_str_dict, ty_tuple_int, ty_tuple_bool, ty_tuple_str, ty_tuple_tuple, ty_tuple_list, ty_tuple_dict, ty_list_int, ty_list_bool, ty_list_str, ty_list_tuple, ty_list_list, ty_list_dict, ty_dict_int, ty_dict_bool, ty_dict_str, ty_dict_tuple, ty_dict_list, ty_dict_dict, Bool.not_true, Bool.not_false, Bool.or_false, Bool.false_or, Bool.or_true, Bool.true_or, List.set_cons_zero, List.set_cons_succ, wipeE,  Nat.zero_add, Nat.reduceAdd, Nat.reduceSub, List.replicate_succ, List.replicate_zero, Option.bind_some, D.bl.injEq, D.int.injEq, reduceCtorEq, Option.some.injEq, if_true, Int.toNat_natCast, at5_0, at5_1, at5_2, at5_3, at5_4, ex_own, ex_ix, ix5_1, ix5_2, ix5_3, ix5_4, ex_own', ex_ix', ne0_1, ne0_2, ne0_3, ne0_4, true_and, Option.map_some, if_false, decide_eq_true_eq, n_non, n_bl, n_int, n_str, n_tup, n_lst, Bool.false_eq_true, h7, h8]
      refine ⟨by rw [sizeLine_eq]; simp; omega, rfl, ?_⟩
      refine mc_iff ⟨9, rfl, by omega, by omega, fun r r0 r1 => ?_⟩
      simp only [wps, wp, ev, evs, evO, evC, evAnd, evOr, entry, List.map_cons, List.map_nil, List.length_cons, List.length_nil, endPost, List.getElem?_cons_zero, List.getElem?_cons_succ, ex_some, ex_bl, ex_int, ex_st, ex_eq, List.cons_append, List.nil_append, Wk.fr, Wk.frs, b_add, b_sub, b_mul, b_div, b_mod, b_pow, b_addT, b_addL, b_mulL, b_mulT, q_lt, q_le, q_gt, q_ge, q_eq, q_ne, q_isN, q_isnN, i_tup, i_lst, l_tup, l_lst, l_scr, r_tup, r_lst, a_lenT, a_lenL, a_abs, a_int, a_tupT, a_tupL, a_lstT, a_lstL, a_min2, a_max2, a_sum, a_all, a_any, s_seqT, s_seqL, s_rng, s_rng2, s_enm, s_zipT, s_zipL, t_name, t_tupT, t_tupL, t_nil, t_cons, u_bl, u_int, u_tup, u_lst, isiD, ty_int_int, ty_int_bool, ty_int_str, ty_int_tuple, ty_int_list, ty_int_dict, ty_bool_int, ty_bool_bool, ty_bool_str, ty_bool_tuple, ty_bool_list, ty_bool_dict, ty_str_int, ty_str_bool, ty_str_str, ty_str_tuple, ty_str_list, ty_str_dict, ty_tuple_int, ty_tuple_bool, ty_tuple_str, ty_tuple_tuple, ty_tuple_list, ty_tuple_dict, ty_list_int, ty_list_bool, ty_list_str, ty_list_tuple, ty_list_list, ty_list_dict, ty_dict_int, ty_dict_bool, ty_dict_str, ty_dict_tuple, ty_dict_list, ty_dict_dict, Bool.not_true, Bool.not_false, Bool.or_false, Bool.false_or, Bool.or_true, Bool.true_or, List.set_cons_zero, List.set_cons_succ, wipeE,  Nat.zero_add, Nat.reduceAdd, Nat.reduceSub, List.replicate_succ, List.replicate_zero, Option.bind_some, D.bl.injEq, D.int.injEq, reduceCtorEq, Option.some.injEq, if_true, Int.toNat_natCast, at5_0, at5_1, at5_2, at5_3, at5_4, ex_own, ex_ix, ix5_1, ix5_2, ix5_3, ix5_4, ex_own', ex_ix', ne0_1, ne0_2, ne0_3, ne0_4, true_and, Option.map_some, if_false, decide_eq_true_eq, n_non, n_bl, n_int, n_str, n_tup, n_lst, Bool.false_eq_true]
      refine mc_iff ⟨false, _, rfl, by simp, by simp, fun w hw => ?_⟩
      have hw' : ∃ j : Int, w = .int j ∧ 0 ≤ j ∧ j ≤ 9 := by
        simp only [List.mem_cons, List.not_mem_nil, or_false] at hw
        rcases hw with rfl | rfl | rfl | rfl | rfl
        · exact ⟨0, rfl, by omega, by omega⟩
        · exact ⟨0, rfl, by omega, by omega⟩
        · exact ⟨1, rfl, by omega, by omega⟩
        · exact ⟨2, rfl, by omega, by omega⟩
        · exact ⟨r, rfl, by omega, by omega⟩
      obtain ⟨j, rfl, j0, j9⟩ := hw'
      simp only [wps, wp, ev, evs, evO, evC, evAnd, evOr, entry, List.map_cons, List.map_nil, List.length_cons, List.length_nil, endPost, List.getElem?_cons_zero, List.getElem?_cons_succ, ex_some, ex_bl, ex_int, ex_st, ex_eq, List.cons_append, List.nil_append, Wk.fr, Wk.frs, b_add, b_sub, b_mul, b_div, b_mod, b_pow, b_addT, b_addL, b_mulL, b_mulT, q_lt, q_le, q_gt, q_ge, q_eq, q_ne, q_isN, q_isnN, i_tup, i_lst, l_tup, l_lst, l_scr, r_tup, r_lst, a_lenT, a_lenL, a_abs, a_int, a_tupT, a_tupL, a_lstT, a_lstL, a_min2, a_max2, a_sum, a_all, a_any, s_seqT, s_seqL, s_rng, s_rng2, s_enm, s_zipT, s_zipL, t_name, t_tupT, t_tupL, t_nil, t_cons, u_bl, u_int, u_tup, u_lst, isiD, ty_int_int, ty_int_bool, ty_int_str, ty_int_tuple, ty_int_list, ty_int_dict, ty_bool_int, ty_bool_bool, ty_bool_str, ty_bool_tuple, ty_bool_list, ty_bool_dict, ty_str_int, ty_str_bool, ty_str_str, ty_str_tuple, ty_str_list, ty_str_dict, ty_tuple_int, ty_tuple_bool, ty_tuple_str, ty_tuple_tuple, ty_tuple_list, ty_tuple_dict, ty_list_int, ty_list_bool, ty_list_str, ty_list_tuple, ty_list_list, ty_list_dict, ty_dict_int, ty_dict_bool, ty_dict_str, ty_dict_tuple, ty_dict_list, ty_dict_dict, Bool.not_true, Bool.not_false, Bool.or_false, Bool.false_or, Bool.or_true, Bool.true_or, List.set_cons_zero, List.set_cons_succ, wipeE,  Nat.zero_add, Nat.reduceAdd, Nat.reduceSub, List.replicate_succ, List.replicate_zero, Option.bind_some, D.bl.injEq, D.int.injEq, reduceCtorEq, Option.some.injEq, if_true, Int.toNat_natCast, at5_0, at5_1, at5_2, at5_3, at5_4, ex_own, ex_ix, ix5_1, ix5_2, ix5_3, ix5_4, ex_own', ex_ix', ne0_1, ne0_2, ne0_3, ne0_4, true_and, Option.map_some, if_false, decide_eq_true_eq, n_non, n_bl, n_int, n_str, n_tup, n_lst, Bool.false_eq_true]
      refine ⟨rfl, xs ++ [h], h + j, _, by rw [List.map_append]; rfl, by simp [hlen], by omega, by omega, by push_cast; omega, fun x hx => ?_, fun p hp => ?_⟩
      · rcases List.mem_append.mp hx with hx | hx
        · have := hb x hx; omega
        · simp at hx; subst hx; omega
      · cases xs with
        | nil => simp at hp
        | cons a xs =>
          rw [zip_snoc _ _ (by simp)] at hp
          rcases List.mem_append.mp hp with hp | hp
          · exact hu p hp
          · simp only [List.mem_singleton] at hp
            subst hp
            exact (hb _ (List.getLast_mem _)).2
  have fin : ∀ y : Int, 0 ≤ y → y < 9 → wps (GG C k S) [.fr (.name 3) .rng [.var 1] [.app 4 (.var 5), .asg (.name 5) (.bin .Add (.var 5) (.call 13 [.var 0, .lst [.int 0, .int 0, .int 1, .int 2, .call 12 [.var 0, .var 2]]]))], .retA (.blt .tuple [.var 4])] [some D.hand, some (D.int ↑n), some (D.int 9), none, some (D.lst true []), some (.int y)] (endPost Q Z) := by
    intro y y0 y9
    obtain ⟨I, i0, f, st⟩ := main y y0 y9
    rw [wps, wp]
    simp only [evs, ev, List.getElem?_cons_zero, List.getElem?_cons_succ, ex_some, Wk.fr, s_rng, Int.toNat_natCast]
    refine ⟨by omega, by omega, I, i0, f, fun i d env' hd hI => ?_⟩
    obtain ⟨env2, b, w⟩ := st i d env' hd hI
    exact ⟨env2, b, w⟩
  rw [s__law_curve, wps, wp]
  simp only [N__law_curve, h7, ev, evs, evO, evC, evAnd, evOr, entry, List.map_cons, List.map_nil, List.length_cons, List.length_nil, endPost, List.getElem?_cons_zero, List.getElem?_cons_succ, ex_some, ex_bl, ex_int, ex_st, ex_eq, List.cons_append, List.nil_append, Wk.fr, Wk.frs, b_add, b_sub, b_mul, b_div, b_mod, b_pow, b_addT, b_addL, b_mulL, b_mulT, q_lt, q_le, q_gt, q_ge, q_eq, q_ne, q_isN, q_isnN, i_tup, i_lst, l_tup, l_lst, l_scr, r_tup, r_lst, a_lenT, a_lenL, a_abs, a_int, a_tupT, a_tupL, a_lstT, a_lstL, a_min2, a_max2, a_sum, a_all, a_any, s_seqT, s_seqL, s_rng, s_rng2, s_enm, s_zipT, s_zipL, t_name, t_tupT, t_tupL, t_nil, t_cons, u_bl, u_int, u_tup, u_lst, isiD, ty_int_int, ty_int_bool, ty_int_str, ty_int_tuple, ty_int_list, ty_int_dict, ty_bool_int, ty_bool_bool, ty_bool_str, ty_bool_tuple, ty_bool_list, ty_bool_dict, ty_str_int, ty_str_bool, ty_str_str, ty_str_tuple, ty_str_list, ty_str_dict, ty_tuple_int, ty_tuple_bool, ty_tuple_str, ty_tuple_tuple, ty_tuple_list, ty_tuple_dict, ty_list_int, ty_list_bool, ty_list_str, ty_list_tuple, ty_list_list, ty_list_dict, ty_dict_int, ty_dict_bool, ty_dict_str, ty_dict_tuple, ty_dict_list, ty_dict_dict, Bool.not_true, Bool.not_false, Bool.or_false, Bool.false_or, Bool.or_true, Bool.true_or, List.set_cons_zero, List.set_cons_succ, wipeE,  Nat.zero_add, Nat.reduceAdd, Nat.reduceSub, List.replicate_succ, List.replicate_zero, Option.bind_some, D.bl.injEq, D.int.injEq, reduceCtorEq, Option.some.injEq, if_true, Int.toNat_natCast, at5_0, at5_1, at5_2, at5_3, at5_4, ex_own, ex_ix, ix5_1, ix5_2, ix5_3, ix5_4, ex_own', ex_ix', ne0_1, ne0_2, ne0_3, ne0_4, true_and, Option.map_some, if_false, decide_eq_true_eq, n_non, n_bl, n_int, n_str, n_tup, n_lst, Bool.false_eq_true]
  refine mc_iff ⟨3, rfl, by omega, by omega, fun r r0 r1 => ⟨eqOk_int _ _, ?_⟩⟩
  by_cases h : eqD (.int r) (.int 0) = true
  · rw [if_pos h]
    refine mc_iff ⟨9, rfl, by omega, by omega, fun y y0 y9 => ⟨rfl, rfl, fin y y0 y9⟩⟩
  · rw [if_neg h]
    exact ⟨rfl, rfl, fin 0 (by omega) (by omega)⟩
def drawA : List Wk.S := s__law_draw.take 1
def drawB : List Wk.S := s__law_draw.drop 1
theorem drawB_ok (cs : List Int) (i b m n many : Int) (z1 z2 z3 : Option D) (ok : hndOk cs i b m n) (h0 : 0 < many) (h1 : many < 1073741824) :
    wps (GP C k S) drawB [some (hndD false cs i b m n), some (.int many), z1, z2, z3] (drawPost many) := by
  obtain ⟨hcs, hi, hb, hm, hn⟩ := ok
  simp only [drawB, s__law_draw, List.drop_succ_cons, List.drop_zero, hndD, drawPost, frs_int, List.length_map, wps, wp, ev, evs, evO, evC, evAnd, evOr, entry, List.map_cons, List.map_nil, List.length_cons, List.length_nil, endPost, List.getElem?_cons_zero, List.getElem?_cons_succ, ex_some, ex_bl, ex_int, ex_st, ex_eq, List.cons_append, List.nil_append, Wk.fr, Wk.frs, b_add, b_sub, b_mul, b_div, b_mod, b_pow, b_addT, b_addL, b_mulL, b_mulT, q_lt, q_le, q_gt, q_ge, q_eq, q_ne, q_isN, q_isnN, i_tup, i_lst, l_tup, l_lst, l_scr, r_tup, r_lst, a_lenT, a_lenL, a_abs, a_int, a_tupT, a_tupL, a_lstT, a_lstL, a_min2, a_max2, a_sum, a_all, a_any, s_seqT, s_seqL, s_rng, s_rng2, s_enm, s_zipT, s_zipL, t_name, t_tupT, t_tupL, t_nil, t_cons, u_bl, u_int, u_tup, u_lst, isiD, ty_int_int, ty_int_bool, ty_int_str, ty_int_tuple, ty_int_list, ty_int_dict, ty_bool_int, ty_bool_bool, ty_bool_str, ty_bool_tuple, ty_bool_list, ty_bool_dict, ty_str_int, ty_str_bool, ty_str_str, ty_str_tuple, ty_str_list, ty_str_dict, ty_tuple_int, ty_tuple_bool, ty_tuple_str, ty_tuple_tuple, ty_tuple_list, ty_tuple_dict, ty_list_int, ty_list_bool, ty_list_str, ty_list_tuple, ty_list_list, ty_list_dict, ty_dict_int, ty_dict_bool, ty_dict_str, ty_dict_tuple, ty_dict_list, ty_dict_dict, Bool.not_true, Bool.not_false, Bool.or_false, Bool.false_or, Bool.or_true, Bool.true_or, List.set_cons_zero, List.set_cons_succ, wipeE,  Nat.zero_add, Nat.reduceAdd, Nat.reduceSub, List.replicate_succ, List.replicate_zero, Option.bind_some, D.bl.injEq, D.int.injEq, reduceCtorEq, Option.some.injEq, if_true, Int.toNat_natCast, at5_0, at5_1, at5_2, at5_3, at5_4, ex_own, ex_ix, ix5_1, ix5_2, ix5_3, ix5_4, ex_own', ex_ix', ne0_1, ne0_2, ne0_3, ne0_4, true_and, Option.map_some, if_false, decide_eq_true_eq, n_non, n_bl, n_int, n_str, n_tup, n_lst, Bool.false_eq_true]
  by_cases hp : 0 < b
  · rw [if_pos hp]
    exact ⟨h0, rfl, ⟨h0, h1⟩, rfl, Int.emod_nonneg _ (by omega), Int.emod_lt_of_pos _ h0, cs, i, b / many, m, n, rfl, hcs, hi, Int.ediv_nonneg hb (by omega), hm, hn⟩
  · rw [if_neg hp]
    have u0 := Int.emod_nonneg ((m + 7919 * (n + 1)) * 40692) (show (2147483647 : Int) ≠ 0 by decide)
    have u1 := Int.emod_lt_of_pos ((m + 7919 * (n + 1)) * 40692) (show (0 : Int) < 2147483647 by decide)
    refine ⟨rfl, mul_small (by omega) (by omega), mul_smallR (by omega) (by omega), by omega, rfl, ?_⟩
    generalize (m + 7919 * (n + 1)) * 40692 % 2147483647 = u at u0 u1 ⊢
    have v0 := Int.emod_nonneg (u * (u / 1009 + 69621)) (show (2147483647 : Int) ≠ 0 by decide)
    have v1 := Int.emod_lt_of_pos (u * (u / 1009 + 69621)) (show (0 : Int) < 2147483647 by decide)
    refine ⟨⟨by omega, by omega⟩, mul_small u0 (by omega), by omega, rfl, ?_⟩
    generalize u * (u / 1009 + 69621) % 2147483647 = v at v0 v1 ⊢
    refine ⟨⟨by omega, by omega⟩, mul_small v0 (by omega), by omega, rfl, ⟨by omega, by omega⟩, h0, rfl, Int.emod_nonneg _ (by omega), Int.emod_lt_of_pos _ h0, cs, i, b, m, n + 1, rfl, hcs, hi, hb, hm, by omega⟩
theorem m7 : ∀ (cs : List Int) (i b m n many : Int), hndOk cs i b m n → 0 < many → many < 1073741824 → wps (GP C k S) s__law_draw (entry N__law_draw [hndD false cs i b m n, .int many]) (drawPost many) := by
  intro cs i b m n many ⟨hcs, hi, hb, hm, hn⟩ h0 h1
  have e : s__law_draw = drawA ++ drawB := rfl
  have fin : ∀ cs i b m n z1 z2 z3, hndOk cs i b m n → wps (GP C k S) drawB [some (hndD false cs i b m n), some (.int many), z1, z2, z3] (drawPost many) := fun cs i b m n z1 z2 z3 ok => drawB_ok C S k cs i b m n many z1 z2 z3 ok h0 h1
  rw [e]
  generalize drawB = B at fin ⊢
  simp only [drawA, s__law_draw, List.take_succ_cons, List.take_zero, List.cons_append, List.nil_append]
  rw [wps, wp]
  simp only [hndD, N__law_draw, frs_int, List.length_map, ev, evs, evO, evC, evAnd, evOr, entry, List.map_cons, List.map_nil, List.length_cons, List.length_nil, endPost, List.getElem?_cons_zero, List.getElem?_cons_succ, ex_some, ex_bl, ex_int, ex_st, ex_eq, List.cons_append, List.nil_append, Wk.fr, Wk.frs, b_add, b_sub, b_mul, b_div, b_mod, b_pow, b_addT, b_addL, b_mulL, b_mulT, q_lt, q_le, q_gt, q_ge, q_eq, q_ne, q_isN, q_isnN, i_tup, i_lst, l_tup, l_lst, l_scr, r_tup, r_lst, a_lenT, a_lenL, a_abs, a_int, a_tupT, a_tupL, a_lstT, a_lstL, a_min2, a_max2, a_sum, a_all, a_any, s_seqT, s_seqL, s_rng, s_rng2, s_enm, s_zipT, s_zipL, t_name, t_tupT, t_tupL, t_nil, t_cons, u_bl, u_int, u_tup, u_lst, isiD, ty_int_int, ty_int_bool, ty_int_str, ty_int_tuple, ty_int_list, ty_int_dict, ty_bool_int, ty_bool_bool, ty_bool_str, ty_bool_tuple, ty_bool_list, ty_bool_dict, ty_str_int, ty_str_bool, ty_str_str, ty_str_tuple, ty_str_list, ty_str_dict, ty_tuple_int, ty_tuple_bool, ty_tuple_str, ty_tuple_tuple, ty_tuple_list, ty_tuple_dict, ty_list_int, ty_list_bool, ty_list_str, ty_list_tuple, ty_list_list, ty_list_dict, ty_dict_int, ty_dict_bool, ty_dict_str, ty_dict_tuple, ty_dict_list, ty_dict_dict, Bool.not_true, Bool.not_false, Bool.or_false, Bool.false_or, Bool.or_true, Bool.true_or, List.set_cons_zero, List.set_cons_succ, wipeE,  Nat.zero_add, Nat.reduceAdd, Nat.reduceSub, List.replicate_succ, List.replicate_zero, Option.bind_some, D.bl.injEq, D.int.injEq, reduceCtorEq, Option.some.injEq, if_true, Int.toNat_natCast, at5_0, at5_1, at5_2, at5_3, at5_4, ex_own, ex_ix, ix5_1, ix5_2, ix5_3, ix5_4, ex_own', ex_ix', ne0_1, ne0_2, ne0_3, ne0_4, true_and, Option.map_some, if_false, decide_eq_true_eq, n_non, n_bl, n_int, n_str, n_tup, n_lst, Bool.false_eq_true, wps, wp]
  have f0 := fin cs i b m n none none none ⟨hcs, hi, hb, hm, hn⟩
  refine ⟨eqOk_int _ _, ?_⟩
  by_cases h : eqD (.int b) (.int 0) = true
  · rw [if_pos h]
    by_cases hlt : i < (cs.length : Int)
    · rw [if_pos hlt]
      obtain ⟨j, rfl⟩ := Int.eq_ofNat_of_zero_le hi
      have hj : j < cs.length := by omega
      refine ⟨.int cs[j], by rw [atI_map, atI_nat hj]; rfl, rfl, rfl, mul_smallR (by omega) (by omega), ?_⟩
      have hx : 0 ≤ cs[j] := hcs _ (List.getElem_mem hj)
      simp only [ev, evs, evO, evC, evAnd, evOr, entry, List.map_cons, List.map_nil, List.length_cons, List.length_nil, endPost, List.getElem?_cons_zero, List.getElem?_cons_succ, ex_some, ex_bl, ex_int, ex_st, ex_eq, List.cons_append, List.nil_append, Wk.fr, Wk.frs, b_add, b_sub, b_mul, b_div, b_mod, b_pow, b_addT, b_addL, b_mulL, b_mulT, q_lt, q_le, q_gt, q_ge, q_eq, q_ne, q_isN, q_isnN, i_tup, i_lst, l_tup, l_lst, l_scr, r_tup, r_lst, a_lenT, a_lenL, a_abs, a_int, a_tupT, a_tupL, a_lstT, a_lstL, a_min2, a_max2, a_sum, a_all, a_any, s_seqT, s_seqL, s_rng, s_rng2, s_enm, s_zipT, s_zipL, t_name, t_tupT, t_tupL, t_nil, t_cons, u_bl, u_int, u_tup, u_lst, isiD, ty_int_int, ty_int_bool, ty_int_str, ty_int_tuple, ty_int_list, ty_int_dict, ty_bool_int, ty_bool_bool, ty_bool_str, ty_bool_tuple, ty_bool_list, ty_bool_dict, ty_str_int, ty_str_bool, ty_str_str, ty_str_tuple, ty_str_list, ty_str_dict, ty_tuple_int, ty_tuple_bool, ty_tuple_str, ty_tuple_tuple, ty_tuple_list, ty_tuple_dict, ty_list_int, ty_list_bool, ty_list_str, ty_list_tuple, ty_list_list, ty_list_dict, ty_dict_int, ty_dict_bool, ty_dict_str, ty_dict_tuple, ty_dict_list, ty_dict_dict, Bool.not_true, Bool.not_false, Bool.or_false, Bool.false_or, Bool.or_true, Bool.true_or, List.set_cons_zero, List.set_cons_succ, wipeE,  Nat.zero_add, Nat.reduceAdd, Nat.reduceSub, List.replicate_succ, List.replicate_zero, Option.bind_some, D.bl.injEq, D.int.injEq, reduceCtorEq, Option.some.injEq, if_true, Int.toNat_natCast, at5_0, at5_1, at5_2, at5_3, at5_4, ex_own, ex_ix, ix5_1, ix5_2, ix5_3, ix5_4, ex_own', ex_ix', ne0_1, ne0_2, ne0_3, ne0_4, true_and, Option.map_some, if_false, decide_eq_true_eq, n_non, n_bl, n_int, n_str, n_tup, n_lst, Bool.false_eq_true]
      refine ⟨mul_smallR (by omega) (by omega), by omega, rfl, ⟨by omega, by omega, by decide⟩, ?_⟩
      have g0 := Int.emod_nonneg (m * 69621 + cs[j] * 48271 + 17) (show (2147483629 : Int) ≠ 0 by decide)
      split
      · exact ⟨rfl, fin cs _ _ _ _ _ _ _ ⟨hcs, by omega, hx, g0, hn⟩⟩
      · exact fin cs _ _ _ _ _ _ _ ⟨hcs, by omega, hb, g0, hn⟩
    · rw [if_neg hlt]
      exact f0
  · rw [if_neg h]
    exact f0
theorem map_rs (f : Nat → D) (i : Nat) : (List.range (i + 1)).map f = (List.range i).map f ++ [f i] := by
  rw [List.range_succ, List.map_append]
  rfl
theorem m12 : ∀ ds Q Z, ds.length = 2 → Wk.frs ds = ds → cLe ds Q Z → wps (GG C k S) s__law_is_no_more (entry N__law_is_no_more ds) (endPost Q Z) := by
  rintro ds Q Z hl hf ⟨xs, ys, rfl, l60, q⟩
  simp only [s__law_is_no_more, N__law_is_no_more, frs_int, zipD_int, List.length_map, List.length_zip, wps, wp, ev, evs, evO, evC, evAnd, evOr, entry, List.map_cons, List.map_nil, List.length_cons, List.length_nil, endPost, List.getElem?_cons_zero, List.getElem?_cons_succ, ex_some, ex_bl, ex_int, ex_st, ex_eq, List.cons_append, List.nil_append, Wk.fr, Wk.frs, b_add, b_sub, b_mul, b_div, b_mod, b_pow, b_addT, b_addL, b_mulL, b_mulT, q_lt, q_le, q_gt, q_ge, q_eq, q_ne, q_isN, q_isnN, i_tup, i_lst, l_tup, l_lst, l_scr, r_tup, r_lst, a_lenT, a_lenL, a_abs, a_int, a_tupT, a_tupL, a_lstT, a_lstL, a_min2, a_max2, a_sum, a_all, a_any, s_seqT, s_seqL, s_rng, s_rng2, s_enm, s_zipT, s_zipL, t_name, t_tupT, t_tupL, t_nil, t_cons, u_bl, u_int, u_tup, u_lst, isiD, ty_int_int, ty_int_bool, ty_int_str, ty_int_tuple, ty_int_list, ty_int_dict, ty_bool_int, ty_bool_bool, ty_bool_str, ty_bool_tuple, ty_bool_list, ty_bool_dict, ty_str_int, ty_str_bool, ty_str_str, ty_str_tuple, ty_str_list, ty_str_dict, ty_tuple_int, ty_tuple_bool, ty_tuple_str, ty_tuple_tuple, ty_tuple_list, ty_tuple_dict, ty_list_int, ty_list_bool, ty_list_str, ty_list_tuple, ty_list_list, ty_list_dict, ty_dict_int, ty_dict_bool, ty_dict_str, ty_dict_tuple, ty_dict_list, ty_dict_dict, Bool.not_true, Bool.not_false, Bool.or_false, Bool.false_or, Bool.or_true, Bool.true_or, List.set_cons_zero, List.set_cons_succ, wipeE,  Nat.zero_add, Nat.reduceAdd, Nat.reduceSub, List.replicate_succ, List.replicate_zero, Option.bind_some, D.bl.injEq, D.int.injEq, reduceCtorEq, Option.some.injEq, if_true, Int.toNat_natCast, at5_0, at5_1, at5_2, at5_3, at5_4, ex_own, ex_ix, ix5_1, ix5_2, ix5_3, ix5_4, ex_own', ex_ix', ne0_1, ne0_2, ne0_3, ne0_4, true_and, Option.map_some, if_false, decide_eq_true_eq, n_non, n_bl, n_int, n_str, n_tup, n_lst, Bool.false_eq_true]
  refine ⟨by omega, compW_of (g := fun p : Int × Int => .bl (decide (p.1 ≤ p.2))) (fun p hp R hR => ?_) ⟨_, bls_mapf _ _, ?_⟩⟩
  · simp only [wps, wp, ev, evs, evO, evC, evAnd, evOr, entry, List.map_cons, List.map_nil, List.length_cons, List.length_nil, endPost, List.getElem?_cons_zero, List.getElem?_cons_succ, ex_some, ex_bl, ex_int, ex_st, ex_eq, List.cons_append, List.nil_append, Wk.fr, Wk.frs, b_add, b_sub, b_mul, b_div, b_mod, b_pow, b_addT, b_addL, b_mulL, b_mulT, q_lt, q_le, q_gt, q_ge, q_eq, q_ne, q_isN, q_isnN, i_tup, i_lst, l_tup, l_lst, l_scr, r_tup, r_lst, a_lenT, a_lenL, a_abs, a_int, a_tupT, a_tupL, a_lstT, a_lstL, a_min2, a_max2, a_sum, a_all, a_any, s_seqT, s_seqL, s_rng, s_rng2, s_enm, s_zipT, s_zipL, t_name, t_tupT, t_tupL, t_nil, t_cons, u_bl, u_int, u_tup, u_lst, isiD, ty_int_int, ty_int_bool, ty_int_str, ty_int_tuple, ty_int_list, ty_int_dict, ty_bool_int, ty_bool_bool, ty_bool_str, ty_bool_tuple, ty_bool_list, ty_bool_dict, ty_str_int, ty_str_bool, ty_str_str, ty_str_tuple, ty_str_list, ty_str_dict, ty_tuple_int, ty_tuple_bool, ty_tuple_str, ty_tuple_tuple, ty_tuple_list, ty_tuple_dict, ty_list_int, ty_list_bool, ty_list_str, ty_list_tuple, ty_list_list, ty_list_dict, ty_dict_int, ty_dict_bool, ty_dict_str, ty_dict_tuple, ty_dict_list, ty_dict_dict, Bool.not_true, Bool.not_false, Bool.or_false, Bool.false_or, Bool.or_true, Bool.true_or, List.set_cons_zero, List.set_cons_succ, wipeE,  Nat.zero_add, Nat.reduceAdd, Nat.reduceSub, List.replicate_succ, List.replicate_zero, Option.bind_some, D.bl.injEq, D.int.injEq, reduceCtorEq, Option.some.injEq, if_true, Int.toNat_natCast, at5_0, at5_1, at5_2, at5_3, at5_4, ex_own, ex_ix, ix5_1, ix5_2, ix5_3, ix5_4, ex_own', ex_ix', ne0_1, ne0_2, ne0_3, ne0_4, true_and, Option.map_some, if_false, decide_eq_true_eq, n_non, n_bl, n_int, n_str, n_tup, n_lst, Bool.false_eq_true]
    exact hR
  · rw [List.all_map]
    exact q
theorem m11 : ∀ ds Q Z, ds.length = 2 → Wk.frs ds = ds → cOne conv ds Q Z → wps (GG C k S) s__law_spread (entry N__law_spread ds) (endPost Q Z) := by
  rintro ds Q Z hl hf ⟨xs, ys, rfl, l, l60, q⟩
  simp only [s__law_spread, N__law_spread, frs_int, List.length_map, List.length_range, wps, wp, ev, evs, evO, evC, evAnd, evOr, entry, List.map_cons, List.map_nil, List.length_cons, List.length_nil, endPost, List.getElem?_cons_zero, List.getElem?_cons_succ, ex_some, ex_bl, ex_int, ex_st, ex_eq, List.cons_append, List.nil_append, Wk.fr, Wk.frs, b_add, b_sub, b_mul, b_div, b_mod, b_pow, b_addT, b_addL, b_mulL, b_mulT, q_lt, q_le, q_gt, q_ge, q_eq, q_ne, q_isN, q_isnN, i_tup, i_lst, l_tup, l_lst, l_scr, r_tup, r_lst, a_lenT, a_lenL, a_abs, a_int, a_tupT, a_tupL, a_lstT, a_lstL, a_min2, a_max2, a_sum, a_all, a_any, s_seqT, s_seqL, s_rng, s_rng2, s_enm, s_zipT, s_zipL, t_name, t_tupT, t_tupL, t_nil, t_cons, u_bl, u_int, u_tup, u_lst, isiD, ty_int_int, ty_int_bool, ty_int_str, ty_int_tuple, ty_int_list, ty_int_dict, ty_bool_int, ty_bool_bool, ty_bool_str, ty_bool_tuple, ty_bool_list, ty_bool_dict, ty_str_int, ty_str_bool, ty_str_str, ty_str_tuple, ty_str_list, ty_str_dict, ty_tuple_int, ty_tuple_bool, ty_tuple_str, ty_tuple_tuple, ty_tuple_list, ty_tuple_dict, ty_list_int, ty_list_bool, ty_list_str, ty_list_tuple, ty_list_list, ty_list_dict, ty_dict_int, ty_dict_bool, ty_dict_str, ty_dict_tuple, ty_dict_list, ty_dict_dict, Bool.not_true, Bool.not_false, Bool.or_false, Bool.false_or, Bool.or_true, Bool.true_or, List.set_cons_zero, List.set_cons_succ, wipeE,  Nat.zero_add, Nat.reduceAdd, Nat.reduceSub, List.replicate_succ, List.replicate_zero, Option.bind_some, D.bl.injEq, D.int.injEq, reduceCtorEq, Option.some.injEq, if_true, Int.toNat_natCast, at5_0, at5_1, at5_2, at5_3, at5_4, ex_own, ex_ix, ix5_1, ix5_2, ix5_3, ix5_4, ex_own', ex_ix', ne0_1, ne0_2, ne0_3, ne0_4, true_and, Option.map_some, if_false, decide_eq_true_eq, n_non, n_bl, n_int, n_str, n_tup, n_lst, Bool.false_eq_true]
  refine ⟨rfl, by omega, by omega, fun i env' => ∃ z1 z2, env' = [some (cv xs), some (cv ys), some (.lst true ((List.range i).map fun h => .int (mn ((List.range (h + 1)).map fun a => cat xs a + cat ys (h - a))))), z1, z2], ⟨none, none, rfl⟩, ?_, ?_⟩
  · rintro env' ⟨z1, z2, rfl⟩
    rw [conv_map]
    simp only [frs_int, wps, wp, ev, evs, evO, evC, evAnd, evOr, entry, List.map_cons, List.map_nil, List.length_cons, List.length_nil, endPost, List.getElem?_cons_zero, List.getElem?_cons_succ, ex_some, ex_bl, ex_int, ex_st, ex_eq, List.cons_append, List.nil_append, Wk.fr, Wk.frs, b_add, b_sub, b_mul, b_div, b_mod, b_pow, b_addT, b_addL, b_mulL, b_mulT, q_lt, q_le, q_gt, q_ge, q_eq, q_ne, q_isN, q_isnN, i_tup, i_lst, l_tup, l_lst, l_scr, r_tup, r_lst, a_lenT, a_lenL, a_abs, a_int, a_tupT, a_tupL, a_lstT, a_lstL, a_min2, a_max2, a_sum, a_all, a_any, s_seqT, s_seqL, s_rng, s_rng2, s_enm, s_zipT, s_zipL, t_name, t_tupT, t_tupL, t_nil, t_cons, u_bl, u_int, u_tup, u_lst, isiD, ty_int_int, ty_int_bool, ty_int_str, ty_int_tuple, ty_int_list, ty_int_dict, ty_bool_int, ty_bool_bool, ty_bool_str, ty_bool_tuple, ty_bool_list, ty_bool_dict, ty_str_int, ty_str_bool, ty_str_str, ty_str_tuple, ty_str_list, ty_str_dict, ty_tuple_int, ty_tuple_bool, ty_tuple_str, ty_tuple_tuple, ty_tuple_list, ty_tuple_dict, ty_list_int, ty_list_bool, ty_list_str, ty_list_tuple, ty_list_list, ty_list_dict, ty_dict_int, ty_dict_bool, ty_dict_str, ty_dict_tuple, ty_dict_list, ty_dict_dict, Bool.not_true, Bool.not_false, Bool.or_false, Bool.false_or, Bool.or_true, Bool.true_or, List.set_cons_zero, List.set_cons_succ, wipeE,  Nat.zero_add, Nat.reduceAdd, Nat.reduceSub, List.replicate_succ, List.replicate_zero, Option.bind_some, D.bl.injEq, D.int.injEq, reduceCtorEq, Option.some.injEq, if_true, Int.toNat_natCast, at5_0, at5_1, at5_2, at5_3, at5_4, ex_own, ex_ix, ix5_1, ix5_2, ix5_3, ix5_4, ex_own', ex_ix', ne0_1, ne0_2, ne0_3, ne0_4, true_and, Option.map_some, if_false, decide_eq_true_eq, n_non, n_bl, n_int, n_str, n_tup, n_lst, Bool.false_eq_true]
    exact q
  · rintro i d env' hd ⟨z1, z2, rfl⟩
    have hi : i < xs.length := by
      rcases Nat.lt_or_ge i xs.length with h | h
      · exact h
      · rw [List.getElem?_eq_none (by simpa using h)] at hd; cases hd
    have e : d = .int (i : Nat) := by
      rw [List.getElem?_map, List.getElem?_range hi] at hd
      exact (Option.some.inj hd).symm
    subst e
    simp only [wps, wp, ev, evs, evO, evC, evAnd, evOr, entry, List.map_cons, List.map_nil, List.length_cons, List.length_nil, endPost, List.getElem?_cons_zero, List.getElem?_cons_succ, ex_some, ex_bl, ex_int, ex_st, ex_eq, List.cons_append, List.nil_append, Wk.fr, Wk.frs, b_add, b_sub, b_mul, b_div, b_mod, b_pow, b_addT, b_addL, b_mulL, b_mulT, q_lt, q_le, q_gt, q_ge, q_eq, q_ne, q_isN, q_isnN, i_tup, i_lst, l_tup, l_lst, l_scr, r_tup, r_lst, a_lenT, a_lenL, a_abs, a_int, a_tupT, a_tupL, a_lstT, a_lstL, a_min2, a_max2, a_sum, a_all, a_any, s_seqT, s_seqL, s_rng, s_rng2, s_enm, s_zipT, s_zipL, t_name, t_tupT, t_tupL, t_nil, t_cons, u_bl, u_int, u_tup, u_lst, isiD, ty_int_int, ty_int_bool, ty_int_str, ty_int_tuple, ty_int_list, ty_int_dict, ty_bool_int, ty_bool_bool, ty_bool_str, ty_bool_tuple, ty_bool_list, ty_bool_dict, ty_str_int, ty_str_bool, ty_str_str, ty_str_tuple, ty_str_list, ty_str_dict, ty_tuple_int, ty_tuple_bool, ty_tuple_str, ty_tuple_tuple, ty_tuple_list, ty_tuple_dict, ty_list_int, ty_list_bool, ty_list_str, ty_list_tuple, ty_list_list, ty_list_dict, ty_dict_int, ty_dict_bool, ty_dict_str, ty_dict_tuple, ty_dict_list, ty_dict_dict, Bool.not_true, Bool.not_false, Bool.or_false, Bool.false_or, Bool.or_true, Bool.true_or, List.set_cons_zero, List.set_cons_succ, wipeE,  Nat.zero_add, Nat.reduceAdd, Nat.reduceSub, List.replicate_succ, List.replicate_zero, Option.bind_some, D.bl.injEq, D.int.injEq, reduceCtorEq, Option.some.injEq, if_true, Int.toNat_natCast, at5_0, at5_1, at5_2, at5_3, at5_4, ex_own, ex_ix, ix5_1, ix5_2, ix5_3, ix5_4, ex_own', ex_ix', ne0_1, ne0_2, ne0_3, ne0_4, true_and, Option.map_some, if_false, decide_eq_true_eq, n_non, n_bl, n_int, n_str, n_tup, n_lst, Bool.false_eq_true, List.length_map, List.length_range, frs_int]
    refine ⟨by rw [sizeLine_eq]; omega, ?_⟩
    have := conv_ev (xs := xs) (ys := ys) (h := i) l hi (by omega) (Q := fun d => Wk.cl d = true ∧ ∃ y1 y2, [some (cv xs), some (cv ys), some (D.lst true ((List.range i).map (fun h => D.int (mn ((List.range (h + 1)).map fun a => cat xs a + cat ys (h - a)))) ++ [d])), some (D.int (i : Nat)), z2] = [some (cv xs), some (cv ys), some (.lst true ((List.range (i + 1)).map fun h => .int (mn ((List.range (h + 1)).map fun a => cat xs a + cat ys (h - a))))), y1, y2])
      ⟨rfl, some (.int (i : Nat)), z2, by rw [map_rs]⟩
    simp only [wps, wp, ev, evs, evO, evC, evAnd, evOr, entry, List.map_cons, List.map_nil, List.length_cons, List.length_nil, endPost, List.getElem?_cons_zero, List.getElem?_cons_succ, ex_some, ex_bl, ex_int, ex_st, ex_eq, List.cons_append, List.nil_append, Wk.fr, Wk.frs, b_add, b_sub, b_mul, b_div, b_mod, b_pow, b_addT, b_addL, b_mulL, b_mulT, q_lt, q_le, q_gt, q_ge, q_eq, q_ne, q_isN, q_isnN, i_tup, i_lst, l_tup, l_lst, l_scr, r_tup, r_lst, a_lenT, a_lenL, a_abs, a_int, a_tupT, a_tupL, a_lstT, a_lstL, a_min2, a_max2, a_sum, a_all, a_any, s_seqT, s_seqL, s_rng, s_rng2, s_enm, s_zipT, s_zipL, t_name, t_tupT, t_tupL, t_nil, t_cons, u_bl, u_int, u_tup, u_lst, isiD, ty_int_int, ty_int_bool, ty_int_str, ty_int_tuple, ty_int_list, ty_int_dict, ty_bool_int, ty_bool_bool, ty_bool_str, ty_bool_tuple, ty_bool_list, ty_bool_dict, ty_str_int, ty_str_bool, ty_str_str, ty_str_tuple, ty_str_list, ty_str_dict, ty_tuple_int, ty_tuple_bool, ty_tuple_str, ty_tuple_tuple, ty_tuple_list, ty_tuple_dict, ty_list_int, ty_list_bool, ty_list_str, ty_list_tuple, ty_list_list, ty_list_dict, ty_dict_int, ty_dict_bool, ty_dict_str, ty_dict_tuple, ty_dict_list, ty_dict_dict, Bool.not_true, Bool.not_false, Bool.or_false, Bool.false_or, Bool.or_true, Bool.true_or, List.set_cons_zero, List.set_cons_succ, wipeE,  Nat.zero_add, Nat.reduceAdd, Nat.reduceSub, List.replicate_succ, List.replicate_zero, Option.bind_some, D.bl.injEq, D.int.injEq, reduceCtorEq, Option.some.injEq, if_true, Int.toNat_natCast, at5_0, at5_1, at5_2, at5_3, at5_4, ex_own, ex_ix, ix5_1, ix5_2, ix5_3, ix5_4, ex_own', ex_ix', ne0_1, ne0_2, ne0_3, ne0_4, true_and, Option.map_some, if_false, decide_eq_true_eq, n_non, n_bl, n_int, n_str, n_tup, n_lst, Bool.false_eq_true, List.length_map, List.length_range] at this
    exact this
theorem m9 (d : Nat) (h9 : C 14 = cIs d) : ∀ ds Q Z, ds.length = 2 → Wk.frs ds = ds → cIs (d + 1) ds Q Z → wps (GG C k S) s__law_is (entry N__law_is ds) (endPost Q Z) := by
  rintro ds Q Z hl hf ⟨a, rfl, ha, q⟩
  simp only [Wk.frs, List.cons.injEq, and_true, and_self] at hf
  have zz : ∀ xs : List D, (∀ x ∈ xs, lists d x) → Wk.frs xs = xs → ∀ (env : Env') (R : List D → Prop), (∃ u v z1 z2, env = [u, v, z1, z2]) → R (xs.map fun _ => D.bl true) → Wk.compW (fun x o => ∃ env', bindT (Tg.tup [Tg.name 2, Tg.name 3]) x env = some env' ∧ ∃ d_1, env'[2]? = some (some d_1) ∧ ∃ d_2, env'[3]? = some (some d_2) ∧
      mc (cIs d) [Wk.fr (Wk.fr d_1), Wk.fr (Wk.fr d_2)] (fun y => o (some y)) fun x => False) (zipD xs xs) R := by
    intro xs hx hfx env R he hR
    have e : zipD xs xs = xs.map fun x => .tup [x, x] := by
      clear hx hfx hR
      induction xs with
      | nil => rfl
      | cons x xs ih => simp [zipD, ih]
    rw [e]
    refine compW_of (fun x hxx R hR => ?_) hR
    obtain ⟨u, v, z1, z2, rfl⟩ := he
    simp only [wps, wp, ev, evs, evO, evC, evAnd, evOr, entry, List.map_cons, List.map_nil, List.length_cons, List.length_nil, endPost, List.getElem?_cons_zero, List.getElem?_cons_succ, ex_some, ex_bl, ex_int, ex_st, ex_eq, List.cons_append, List.nil_append, Wk.fr, Wk.frs, b_add, b_sub, b_mul, b_div, b_mod, b_pow, b_addT, b_addL, b_mulL, b_mulT, q_lt, q_le, q_gt, q_ge, q_eq, q_ne, q_isN, q_isnN, i_tup, i_lst, l_tup, l_lst, l_scr, r_tup, r_lst, a_lenT, a_lenL, a_abs, a_int, a_tupT, a_tupL, a_lstT, a_lstL, a_min2, a_max2, a_sum, a_all, a_any, s_seqT, s_seqL, s_rng, s_rng2, s_enm, s_zipT, s_zipL, t_name, t_tupT, t_tupL, t_nil, t_cons, u_bl, u_int, u_tup, u_lst, isiD, ty_int_int, ty_int_bool, ty_int_str, ty_int_tuple, ty_int_list, ty_int_dict, ty_bool_int, ty_bool_bool, ty_bool_str, ty_bool_tuple, ty_bool_list, ty_bool_dict, ty_str_int, ty_str_bool, ty_str_str, ty_str_tuple, ty_str_list, ty_str_dict, ty_tuple_int, ty_tuple_bool, ty_tuple_str, ty_tuple_tuple, ty_tuple_list, ty_tuple_dict, ty_list_int, ty_list_bool, ty_list_str, ty_list_tuple, ty_list_list, ty_list_dict, ty_dict_int, ty_dict_bool, ty_dict_str, ty_dict_tuple, ty_dict_list, ty_dict_dict, Bool.not_true, Bool.not_false, Bool.or_false, Bool.false_or, Bool.or_true, Bool.true_or, List.set_cons_zero, List.set_cons_succ, wipeE,  Nat.zero_add, Nat.reduceAdd, Nat.reduceSub, List.replicate_succ, List.replicate_zero, Option.bind_some, D.bl.injEq, D.int.injEq, reduceCtorEq, Option.some.injEq, if_true, Int.toNat_natCast, at5_0, at5_1, at5_2, at5_3, at5_4, ex_own, ex_ix, ix5_1, ix5_2, ix5_3, ix5_4, ex_own', ex_ix', ne0_1, ne0_2, ne0_3, ne0_4, true_and, Option.map_some, if_false, decide_eq_true_eq, n_non, n_bl, n_int, n_str, n_tup, n_lst, Bool.false_eq_true]
    have := frs_fr hfx x hxx
    rw [this, this]
    exact mc_iff ⟨x, rfl, hx x hxx, hR⟩
  have tt : ∀ xs : List D, ((xs.map fun _ => D.bl true) = (xs.map fun _ => true).map D.bl) ∧ (xs.map fun _ => true).all id = true := fun xs => ⟨by simp, by simp⟩
  have zl : ∀ xs : List D, (zipD xs xs).length = xs.length := fun xs => by
    induction xs with
    | nil => rfl
    | cons x xs ih => simp [zipD, ih]
  obtain ⟨i, rfl⟩ | ⟨xs, h, hl2, hx⟩ := ha
  · simp only [s__law_is, N__law_is, hf, h9, wps, wp, ev, evs, evO, evC, evAnd, evOr, entry, List.map_cons, List.map_nil, List.length_cons, List.length_nil, endPost, List.getElem?_cons_zero, List.getElem?_cons_succ, ex_some, ex_bl, ex_int, ex_st, ex_eq, List.cons_append, List.nil_append, Wk.fr, Wk.frs, b_add, b_sub, b_mul, b_div, b_mod, b_pow, b_addT, b_addL, b_mulL, b_mulT, q_lt, q_le, q_gt, q_ge, q_eq, q_ne, q_isN, q_isnN, i_tup, i_lst, l_tup, l_lst, l_scr, r_tup, r_lst, a_lenT, a_lenL, a_abs, a_int, a_tupT, a_tupL, a_lstT, a_lstL, a_min2, a_max2, a_sum, a_all, a_any, s_seqT, s_seqL, s_rng, s_rng2, s_enm, s_zipT, s_zipL, t_name, t_tupT, t_tupL, t_nil, t_cons, u_bl, u_int, u_tup, u_lst, isiD, ty_int_int, ty_int_bool, ty_int_str, ty_int_tuple, ty_int_list, ty_int_dict, ty_bool_int, ty_bool_bool, ty_bool_str, ty_bool_tuple, ty_bool_list, ty_bool_dict, ty_str_int, ty_str_bool, ty_str_str, ty_str_tuple, ty_str_list, ty_str_dict, ty_tuple_int, ty_tuple_bool, ty_tuple_str, ty_tuple_tuple, ty_tuple_list, ty_tuple_dict, ty_list_int, ty_list_bool, ty_list_str, ty_list_tuple, ty_list_list, ty_list_dict, ty_dict_int, ty_dict_bool, ty_dict_str, ty_dict_tuple, ty_dict_list, ty_dict_dict, Bool.not_true, Bool.not_false, Bool.or_false, Bool.false_or, Bool.or_true, Bool.true_or, List.set_cons_zero, List.set_cons_succ, wipeE,  Nat.zero_add, Nat.reduceAdd, Nat.reduceSub, List.replicate_succ, List.replicate_zero, Option.bind_some, D.bl.injEq, D.int.injEq, reduceCtorEq, Option.some.injEq, if_true, Int.toNat_natCast, at5_0, at5_1, at5_2, at5_3, at5_4, ex_own, ex_ix, ix5_1, ix5_2, ix5_3, ix5_4, ex_own', ex_ix', ne0_1, ne0_2, ne0_3, ne0_4, true_and, Option.map_some, if_false, decide_eq_true_eq, n_non, n_bl, n_int, n_str, n_tup, n_lst, Bool.false_eq_true]
    rw [show eqD (.int i) (.int i) = true by simp [eqD]]
    exact ⟨eqOk_int _ _, q⟩
  · obtain rfl | ⟨b, rfl⟩ := h
    · simp only [Wk.fr, D.tup.injEq] at hf
      simp only [s__law_is, N__law_is, hf, h9, wps, wp, ev, evs, evO, evC, evAnd, evOr, entry, List.map_cons, List.map_nil, List.length_cons, List.length_nil, endPost, List.getElem?_cons_zero, List.getElem?_cons_succ, ex_some, ex_bl, ex_int, ex_st, ex_eq, List.cons_append, List.nil_append, Wk.fr, Wk.frs, b_add, b_sub, b_mul, b_div, b_mod, b_pow, b_addT, b_addL, b_mulL, b_mulT, q_lt, q_le, q_gt, q_ge, q_eq, q_ne, q_isN, q_isnN, i_tup, i_lst, l_tup, l_lst, l_scr, r_tup, r_lst, a_lenT, a_lenL, a_abs, a_int, a_tupT, a_tupL, a_lstT, a_lstL, a_min2, a_max2, a_sum, a_all, a_any, s_seqT, s_seqL, s_rng, s_rng2, s_enm, s_zipT, s_zipL, t_name, t_tupT, t_tupL, t_nil, t_cons, u_bl, u_int, u_tup, u_lst, isiD, ty_int_int, ty_int_bool, ty_int_str, ty_int_tuple, ty_int_list, ty_int_dict, ty_bool_int, ty_bool_bool, ty_bool_str, ty_bool_tuple, ty_bool_list, ty_bool_dict, ty_str_int, ty_str_bool, ty_str_str, ty_str_tuple, ty_str_list, ty_str_dict, ty_tuple_int, ty_tuple_bool, ty_tuple_str, ty_tuple_tuple, ty_tuple_list, ty_tuple_dict, ty_list_int, ty_list_bool, ty_list_str, ty_list_tuple, ty_list_list, ty_list_dict, ty_dict_int, ty_dict_bool, ty_dict_str, ty_dict_tuple, ty_dict_list, ty_dict_dict, Bool.not_true, Bool.not_false, Bool.or_false, Bool.false_or, Bool.or_true, Bool.true_or, List.set_cons_zero, List.set_cons_succ, wipeE,  Nat.zero_add, Nat.reduceAdd, Nat.reduceSub, List.replicate_succ, List.replicate_zero, Option.bind_some, D.bl.injEq, D.int.injEq, reduceCtorEq, Option.some.injEq, if_true, Int.toNat_natCast, at5_0, at5_1, at5_2, at5_3, at5_4, ex_own, ex_ix, ix5_1, ix5_2, ix5_3, ix5_4, ex_own', ex_ix', ne0_1, ne0_2, ne0_3, ne0_4, true_and, Option.map_some, if_false, decide_eq_true_eq, n_non, n_bl, n_int, n_str, n_tup, n_lst, Bool.false_eq_true]
      rw [show eqD (.bl true) (.bl true) = true from rfl, show eqD (.bl false) (.bl false) = true from rfl, show eqD (.int (xs.length : Nat)) (.int (xs.length : Nat)) = true by simp [eqD]]
      simp only [wps, wp, ev, evs, evO, evC, evAnd, evOr, entry, List.map_cons, List.map_nil, List.length_cons, List.length_nil, endPost, List.getElem?_cons_zero, List.getElem?_cons_succ, ex_some, ex_bl, ex_int, ex_st, ex_eq, List.cons_append, List.nil_append, Wk.fr, Wk.frs, b_add, b_sub, b_mul, b_div, b_mod, b_pow, b_addT, b_addL, b_mulL, b_mulT, q_lt, q_le, q_gt, q_ge, q_eq, q_ne, q_isN, q_isnN, i_tup, i_lst, l_tup, l_lst, l_scr, r_tup, r_lst, a_lenT, a_lenL, a_abs, a_int, a_tupT, a_tupL, a_lstT, a_lstL, a_min2, a_max2, a_sum, a_all, a_any, s_seqT, s_seqL, s_rng, s_rng2, s_enm, s_zipT, s_zipL, t_name, t_tupT, t_tupL, t_nil, t_cons, u_bl, u_int, u_tup, u_lst, isiD, ty_int_int, ty_int_bool, ty_int_str, ty_int_tuple, ty_int_list, ty_int_dict, ty_bool_int, ty_bool_bool, ty_bool_str, ty_bool_tuple, ty_bool_list, ty_bool_dict, ty_str_int, ty_str_bool, ty_str_str, ty_str_tuple, ty_str_list, ty_str_dict, ty_tuple_int, ty_tuple_bool, ty_tuple_str, ty_tuple_tuple, ty_tuple_list, ty_tuple_dict, ty_list_int, ty_list_bool, ty_list_str, ty_list_tuple, ty_list_list, ty_list_dict, ty_dict_int, ty_dict_bool, ty_dict_str, ty_dict_tuple, ty_dict_list, ty_dict_dict, Bool.not_true, Bool.not_false, Bool.or_false, Bool.false_or, Bool.or_true, Bool.true_or, List.set_cons_zero, List.set_cons_succ, wipeE,  Nat.zero_add, Nat.reduceAdd, Nat.reduceSub, List.replicate_succ, List.replicate_zero, Option.bind_some, D.bl.injEq, D.int.injEq, reduceCtorEq, Option.some.injEq, if_true, Int.toNat_natCast, at5_0, at5_1, at5_2, at5_3, at5_4, ex_own, ex_ix, ix5_1, ix5_2, ix5_3, ix5_4, ex_own', ex_ix', ne0_1, ne0_2, ne0_3, ne0_4, true_and, Option.map_some, if_false, decide_eq_true_eq, n_non, n_bl, n_int, n_str, n_tup, n_lst, Bool.false_eq_true]
      refine ⟨eqOk_bl _ _, eqOk_bl _ _, eqOk_int _ _, by rw [zl]; exact hl2, zz xs hx hf _ _ ⟨_, _, _, _, rfl⟩ ?_⟩
      rw [(tt xs).1]
      exact ⟨_, bls_map _, by rw [(tt xs).2]; exact q⟩
    · simp only [Wk.fr, D.lst.injEq] at hf
      obtain ⟨hb, hf⟩ := hf
      subst hb
      simp only [s__law_is, N__law_is, hf, h9, wps, wp, ev, evs, evO, evC, evAnd, evOr, entry, List.map_cons, List.map_nil, List.length_cons, List.length_nil, endPost, List.getElem?_cons_zero, List.getElem?_cons_succ, ex_some, ex_bl, ex_int, ex_st, ex_eq, List.cons_append, List.nil_append, Wk.fr, Wk.frs, b_add, b_sub, b_mul, b_div, b_mod, b_pow, b_addT, b_addL, b_mulL, b_mulT, q_lt, q_le, q_gt, q_ge, q_eq, q_ne, q_isN, q_isnN, i_tup, i_lst, l_tup, l_lst, l_scr, r_tup, r_lst, a_lenT, a_lenL, a_abs, a_int, a_tupT, a_tupL, a_lstT, a_lstL, a_min2, a_max2, a_sum, a_all, a_any, s_seqT, s_seqL, s_rng, s_rng2, s_enm, s_zipT, s_zipL, t_name, t_tupT, t_tupL, t_nil, t_cons, u_bl, u_int, u_tup, u_lst, isiD, ty_int_int, ty_int_bool, ty_int_str, ty_int_tuple, ty_int_list, ty_int_dict, ty_bool_int, ty_bool_bool, ty_bool_str, ty_bool_tuple, ty_bool_list, ty_bool_dict, ty_str_int, ty_str_bool, ty_str_str, ty_str_tuple, ty_str_list, ty_str_dict, ty_tuple_int, ty_tuple_bool, ty_tuple_str, ty_tuple_tuple, ty_tuple_list, ty_tuple_dict, ty_list_int, ty_list_bool, ty_list_str, ty_list_tuple, ty_list_list, ty_list_dict, ty_dict_int, ty_dict_bool, ty_dict_str, ty_dict_tuple, ty_dict_list, ty_dict_dict, Bool.not_true, Bool.not_false, Bool.or_false, Bool.false_or, Bool.or_true, Bool.true_or, List.set_cons_zero, List.set_cons_succ, wipeE,  Nat.zero_add, Nat.reduceAdd, Nat.reduceSub, List.replicate_succ, List.replicate_zero, Option.bind_some, D.bl.injEq, D.int.injEq, reduceCtorEq, Option.some.injEq, if_true, Int.toNat_natCast, at5_0, at5_1, at5_2, at5_3, at5_4, ex_own, ex_ix, ix5_1, ix5_2, ix5_3, ix5_4, ex_own', ex_ix', ne0_1, ne0_2, ne0_3, ne0_4, true_and, Option.map_some, if_false, decide_eq_true_eq, n_non, n_bl, n_int, n_str, n_tup, n_lst, Bool.false_eq_true]
      rw [show eqD (.bl true) (.bl true) = true from rfl, show eqD (.bl false) (.bl false) = true from rfl, show eqD (.int (xs.length : Nat)) (.int (xs.length : Nat)) = true by simp [eqD]]
      simp only [wps, wp, ev, evs, evO, evC, evAnd, evOr, entry, List.map_cons, List.map_nil, List.length_cons, List.length_nil, endPost, List.getElem?_cons_zero, List.getElem?_cons_succ, ex_some, ex_bl, ex_int, ex_st, ex_eq, List.cons_append, List.nil_append, Wk.fr, Wk.frs, b_add, b_sub, b_mul, b_div, b_mod, b_pow, b_addT, b_addL, b_mulL, b_mulT, q_lt, q_le, q_gt, q_ge, q_eq, q_ne, q_isN, q_isnN, i_tup, i_lst, l_tup, l_lst, l_scr, r_tup, r_lst, a_lenT, a_lenL, a_abs, a_int, a_tupT, a_tupL, a_lstT, a_lstL, a_min2, a_max2, a_sum, a_all, a_any, s_seqT, s_seqL, s_rng, s_rng2, s_enm, s_zipT, s_zipL, t_name, t_tupT, t_tupL, t_nil, t_cons, u_bl, u_int, u_tup, u_lst, isiD, ty_int_int, ty_int_bool, ty_int_str, ty_int_tuple, ty_int_list, ty_int_dict, ty_bool_int, ty_bool_bool, ty_bool_str, ty_bool_tuple, ty_bool_list, ty_bool_dict, ty_str_int, ty_str_bool, ty_str_str, ty_str_tuple, ty_str_list, ty_str_dict, ty_tuple_int, ty_tuple_bool, ty_tuple_str, ty_tuple_tuple, ty_tuple_list, ty_tuple_dict, ty_list_int, ty_list_bool, ty_list_str, ty_list_tuple, ty_list_list, ty_list_dict, ty_dict_int, ty_dict_bool, ty_dict_str, ty_dict_tuple, ty_dict_list, ty_dict_dict, Bool.not_true, Bool.not_false, Bool.or_false, Bool.false_or, Bool.or_true, Bool.true_or, List.set_cons_zero, List.set_cons_succ, wipeE,  Nat.zero_add, Nat.reduceAdd, Nat.reduceSub, List.replicate_succ, List.replicate_zero, Option.bind_some, D.bl.injEq, D.int.injEq, reduceCtorEq, Option.some.injEq, if_true, Int.toNat_natCast, at5_0, at5_1, at5_2, at5_3, at5_4, ex_own, ex_ix, ix5_1, ix5_2, ix5_3, ix5_4, ex_own', ex_ix', ne0_1, ne0_2, ne0_3, ne0_4, true_and, Option.map_some, if_false, decide_eq_true_eq, n_non, n_bl, n_int, n_str, n_tup, n_lst, Bool.false_eq_true]
      refine ⟨eqOk_bl _ _, eqOk_bl _ _, eqOk_int _ _, by rw [zl]; exact hl2, zz xs hx hf _ _ ⟨_, _, _, _, rfl⟩ ?_⟩
      rw [(tt xs).1]
      exact ⟨_, bls_map _, by rw [(tt xs).2]; exact q⟩
theorem m90 : ∀ ds Q Z, ds.length = 2 → Wk.frs ds = ds → cIs 0 ds Q Z → wps (GG C k S) s__law_is (entry N__law_is ds) (endPost Q Z) := by
  rintro ds Q Z hl hf ⟨a, rfl, ⟨i, rfl⟩, q⟩
  simp only [s__law_is, N__law_is, wps, wp, ev, evs, evO, evC, evAnd, evOr, entry, List.map_cons, List.map_nil, List.length_cons, List.length_nil, endPost, List.getElem?_cons_zero, List.getElem?_cons_succ, ex_some, ex_bl, ex_int, ex_st, ex_eq, List.cons_append, List.nil_append, Wk.fr, Wk.frs, b_add, b_sub, b_mul, b_div, b_mod, b_pow, b_addT, b_addL, b_mulL, b_mulT, q_lt, q_le, q_gt, q_ge, q_eq, q_ne, q_isN, q_isnN, i_tup, i_lst, l_tup, l_lst, l_scr, r_tup, r_lst, a_lenT, a_lenL, a_abs, a_int, a_tupT, a_tupL, a_lstT, a_lstL, a_min2, a_max2, a_sum, a_all, a_any, s_seqT, s_seqL, s_rng, s_rng2, s_enm, s_zipT, s_zipL, t_name, t_tupT, t_tupL, t_nil, t_cons, u_bl, u_int, u_tup, u_lst, isiD, ty_int_int, ty_int_bool, ty_int_str, ty_int_tuple, ty_int_list, ty_int_dict, ty_bool_int, ty_bool_bool, ty_bool_str, ty_bool_tuple, ty_bool_list, ty_bool_dict, ty_str_int, ty_str_bool, ty_str_str, ty_str_tuple, ty_str_list, ty_str_dict, ty_tuple_int, ty_tuple_bool, ty_tuple_str, ty_tuple_tuple, ty_tuple_list, ty_tuple_dict, ty_list_int, ty_list_bool, ty_list_str, ty_list_tuple, ty_list_list, ty_list_dict, ty_dict_int, ty_dict_bool, ty_dict_str, ty_dict_tuple, ty_dict_list, ty_dict_dict, Bool.not_true, Bool.not_false, Bool.or_false, Bool.false_or, Bool.or_true, Bool.true_or, List.set_cons_zero, List.set_cons_succ, wipeE,  Nat.zero_add, Nat.reduceAdd, Nat.reduceSub, List.replicate_succ, List.replicate_zero, Option.bind_some, D.bl.injEq, D.int.injEq, reduceCtorEq, Option.some.injEq, if_true, Int.toNat_natCast, at5_0, at5_1, at5_2, at5_3, at5_4, ex_own, ex_ix, ix5_1, ix5_2, ix5_3, ix5_4, ex_own', ex_ix', ne0_1, ne0_2, ne0_3, ne0_4, true_and, Option.map_some, if_false, decide_eq_true_eq, n_non, n_bl, n_int, n_str, n_tup, n_lst, Bool.false_eq_true]
  rw [show eqD (.int i) (.int i) = true by simp [eqD]]
  exact ⟨eqOk_int _ _, q⟩
/-! ## the plain law -/
theorem cat_mem {xs : List Int} {i : Nat} (h : i < xs.length) : cat xs i ∈ xs := by
  simp only [cat, List.getD_eq_getElem?_getD, List.getElem?_eq_getElem h, Option.getD_some]
  exact List.getElem_mem h
theorem cat_ext {xs ys : List Int} (l : xs.length = ys.length) (h : ∀ i, i < xs.length → cat xs i = cat ys i) : xs = ys := by
  refine List.ext_getElem l fun i h1 h2 => ?_
  have := h i h1
  simpa [cat, h1, h2] using this
theorem conv_len (xs ys : List Int) : (conv xs ys).length = xs.length := by simp [conv]
theorem unc_len (xs ys : List Int) : (unc xs ys).length = xs.length := by simp [unc]
theorem conv_at {xs ys : List Int} {h : Nat} (hh : h < xs.length) : cat (conv xs ys) h = mn ((List.range (h + 1)).map fun a => cat xs a + cat ys (h - a)) := by
  simp [cat, conv, hh]
theorem unc_at {xs ys : List Int} {h : Nat} (hh : h < xs.length) : cat (unc xs ys) h = mx (0 :: (List.range (xs.length - h)).map fun a => cat xs (h + a) - cat ys a) := by
  simp [cat, unc, hh]
theorem conv_le {xs ys : List Int} {h a : Nat} (hh : h < xs.length) (ha : a ≤ h) : cat (conv xs ys) h ≤ cat xs a + cat ys (h - a) := by
  rw [conv_at hh]
  exact mn_le (List.mem_map.mpr ⟨a, by simp; omega, rfl⟩)
theorem conv_ex {xs ys : List Int} {h : Nat} (hh : h < xs.length) : ∃ a, a ≤ h ∧ cat (conv xs ys) h = cat xs a + cat ys (h - a) := by
  rw [conv_at hh]
  obtain ⟨a, ha, e⟩ := List.mem_map.mp (mn_mem (xs := (List.range (h + 1)).map fun a => cat xs a + cat ys (h - a)) (by simp))
  exact ⟨a, by simpa [Nat.lt_succ_iff] using ha, e.symm⟩
theorem up_iff {xs : List Int} : (∀ p ∈ xs.zip (xs.drop 1), p.1 ≤ p.2) ↔ ∀ i, i + 1 < xs.length → cat xs i ≤ cat xs (i + 1) := by
  constructor
  · intro h i hi
    have := h (cat xs i, cat xs (i + 1)) (List.mem_iff_getElem?.mpr ⟨i, by
      rw [List.getElem?_zip_eq_some]
      simp [cat, hi, show i < xs.length by omega, Nat.add_comm]⟩)
    exact this
  · intro h p hp
    obtain ⟨i, hi⟩ := List.mem_iff_getElem?.mp hp
    rw [List.getElem?_zip_eq_some] at hi
    obtain ⟨h1, h2⟩ := hi
    rw [List.getElem?_drop] at h2
    have l2 : i + 1 < xs.length := by
      rcases Nat.lt_or_ge (i + 1) xs.length with z | z
      · exact z
      · rw [List.getElem?_eq_none (by omega)] at h2; cases h2
    have := h i l2
    rw [cat, cat, List.getD_eq_getElem?_getD, List.getD_eq_getElem?_getD, h1, show i + 1 = 1 + i by omega, h2] at this
    exact this
theorem up_le {xs : List Int} (h : ∀ i, i + 1 < xs.length → cat xs i ≤ cat xs (i + 1)) : ∀ {i j}, i ≤ j → j < xs.length → cat xs i ≤ cat xs j := by
  intro i j hij
  induction j with
  | zero => intro _; rw [show i = 0 by omega]; exact Int.le_refl _
  | succ j ih =>
    intro hj
    by_cases e : i = j + 1
    · subst e; exact Int.le_refl _
    · exact Int.le_trans (ih (by omega) (by omega)) (h j hj)
end T71
end sec_L71

section sec_M71
set_option Elab.async false
set_option linter.all false
set_option maxRecDepth 100000
set_option maxHeartbeats 4000000
namespace T71
open PySem PySem.Spec PyProof.Rows Wk
/-- a curve of n hours, no value above B -/
structure P (n : Nat) (B : Int) (xs : List Int) : Prop where
  len : xs.length = n
  bd : ∀ i, i < n → 0 ≤ cat xs i ∧ cat xs i ≤ B
  up : ∀ i, i + 1 < n → cat xs i ≤ cat xs (i + 1)
theorem P.mem {n : Nat} {B : Int} {xs : List Int} (p : P n B xs) : ∀ x ∈ xs, 0 ≤ x ∧ x ≤ B := fun x hx => by
  obtain ⟨i, hi, rfl⟩ := List.mem_iff_getElem.mp hx
  have := p.bd i (by rw [← p.len]; exact hi)
  simpa [cat, hi] using this
theorem P.curve {n : Nat} {B : Int} {xs : List Int} (p : P n B xs) (h1 : 1 ≤ n) (h2 : n ≤ 60) (h3 : B ≤ 1000000) : Curve xs :=
  ⟨by rw [p.len]; exact h1, by rw [p.len]; exact h2, fun x hx => ⟨(p.mem x hx).1, Int.le_trans (p.mem x hx).2 h3⟩, up_iff.mpr fun i hi => p.up i (by rw [← p.len]; exact hi)⟩
theorem P.of {n : Nat} {B : Int} {xs : List Int} (l : xs.length = n) (u : UpTo B xs) : P n B xs :=
  ⟨l, fun i hi => u.1 _ (cat_mem (by omega)), fun i hi => up_iff.mp u.2 i (by omega)⟩
theorem P.le {n : Nat} {B : Int} {xs : List Int} (p : P n B xs) {i j : Nat} (h : i ≤ j) (hj : j < n) : cat xs i ≤ cat xs j := up_le (fun i hi => p.up i (by rw [← p.len]; exact hi)) h (by rw [p.len]; exact hj)
theorem P.conv {n : Nat} {A B : Int} {xs ys : List Int} (p : P n A xs) (q : P n B ys) : P n (A + B) (conv xs ys) where
  len := by rw [conv_len, p.len]
  bd := fun i hi => by
    obtain ⟨a, ha, e⟩ := conv_ex (ys := ys) (show i < xs.length by rw [p.len]; exact hi)
    rw [e]
    have h1 := p.bd a (by omega)
    have h2 := q.bd (i - a) (by omega)
    omega
  up := fun i hi => by
    obtain ⟨a, ha, e⟩ := conv_ex (ys := ys) (show i + 1 < xs.length by rw [p.len]; exact hi)
    rw [e]
    by_cases h : a ≤ i
    · have h1 := conv_le (ys := ys) (show i < xs.length by rw [p.len]; omega) h
      have h2 := q.le (show i - a ≤ i + 1 - a by omega) (by omega)
      omega
    · have e2 : a = i + 1 := by omega
      subst e2
      have h1 := conv_le (ys := ys) (show i < xs.length by rw [p.len]; omega) (Nat.le_refl i)
      have h2 := p.up i hi
      simp only [Nat.sub_self] at h1 ⊢
      omega
theorem conv_comm {xs ys : List Int} (l : xs.length = ys.length) : conv xs ys = conv ys xs := by
  refine cat_ext (by rw [conv_len, conv_len, l]) fun i hi => ?_
  rw [conv_len] at hi
  apply Int.le_antisymm
  · obtain ⟨a, ha, e⟩ := conv_ex (ys := xs) (show i < ys.length by omega)
    rw [e]
    have := conv_le (xs := xs) (ys := ys) (a := i - a) hi (by omega)
    rw [show i - (i - a) = a by omega] at this
    omega
  · obtain ⟨a, ha, e⟩ := conv_ex (ys := ys) hi
    rw [e]
    have := conv_le (xs := ys) (ys := xs) (h := i) (a := i - a) (by omega) (by omega)
    rw [show i - (i - a) = a by omega] at this
    omega
theorem conv_assoc {xs ys zs : List Int} (l : xs.length = ys.length) (l' : xs.length = zs.length) : conv (conv xs ys) zs = conv xs (conv ys zs) := by
  refine cat_ext (by simp [conv_len]) fun i hi => ?_
  rw [conv_len, conv_len] at hi
  apply Int.le_antisymm
  · obtain ⟨a, ha, e⟩ := conv_ex (xs := xs) (ys := conv ys zs) hi
    obtain ⟨b, hb, e2⟩ := conv_ex (xs := ys) (ys := zs) (h := i - a) (by omega)
    rw [e, e2]
    have h1 := conv_le (xs := conv xs ys) (ys := zs) (h := i) (a := a + b) (by rw [conv_len]; omega) (by omega)
    have h2 := conv_le (xs := xs) (ys := ys) (h := a + b) (a := a) (by omega) (by omega)
    rw [show a + b - a = b by omega] at h2
    rw [show i - (a + b) = i - a - b by omega] at h1
    omega
  · obtain ⟨a, ha, e⟩ := conv_ex (xs := conv xs ys) (ys := zs) (h := i) (by rw [conv_len]; omega)
    obtain ⟨b, hb, e2⟩ := conv_ex (xs := xs) (ys := ys) (h := a) (by omega)
    rw [e, e2]
    have h1 := conv_le (xs := xs) (ys := conv ys zs) (h := i) (a := b) hi (by omega)
    have h2 := conv_le (xs := ys) (ys := zs) (h := i - b) (a := a - b) (by omega) (by omega)
    rw [show i - b - (a - b) = i - a by omega] at h2
    omega
/-- no more anywhere -/
def Le (n : Nat) (xs ys : List Int) : Prop := ∀ i, i < n → cat xs i ≤ cat ys i
theorem leB_iff {n : Nat} {xs ys : List Int} (l : xs.length = n) (l' : ys.length = n) : leB xs ys = true ↔ Le n xs ys := by
  simp only [leB, List.all_eq_true, decide_eq_true_eq]
  constructor
  · intro h i hi
    have := h (cat xs i, cat ys i) (List.mem_iff_getElem?.mpr ⟨i, by
      rw [List.getElem?_zip_eq_some]
      simp [cat, show i < xs.length by omega, show i < ys.length by omega]⟩)
    exact this
  · intro h p hp
    obtain ⟨i, hi⟩ := List.mem_iff_getElem?.mp hp
    rw [List.getElem?_zip_eq_some] at hi
    obtain ⟨h1, h2⟩ := hi
    have l2 : i < n := by
      rcases Nat.lt_or_ge i xs.length with z | z
      · omega
      · rw [List.getElem?_eq_none (by omega)] at h1; cases h1
    have := h i l2
    rw [cat, cat, List.getD_eq_getElem?_getD, List.getD_eq_getElem?_getD, h1, h2] at this
    exact this
theorem unc_le {n : Nat} {A B : Int} {xs ys zs : List Int} (p : P n A xs) (ly : ys.length = n) (lz : zs.length = n) : Le n (unc zs ys) xs ↔ Le n zs (conv xs ys) := by
  constructor
  · intro h i hi
    obtain ⟨a, ha, e⟩ := conv_ex (ys := ys) (show i < xs.length by rw [p.len]; exact hi)
    rw [e]
    have h1 := h a (by omega)
    rw [unc_at (by omega)] at h1
    have h2 := le_mx (xs := 0 :: (List.range (zs.length - a)).map fun b => cat zs (a + b) - cat ys b) (List.mem_cons_of_mem _ (List.mem_map.mpr ⟨i - a, by simp; omega, rfl⟩))
    rw [show a + (i - a) = i by omega] at h2
    omega
  · intro h i hi
    rw [unc_at (by omega)]
    rcases List.mem_cons.mp (mx_mem (xs := 0 :: (List.range (zs.length - i)).map fun b => cat zs (i + b) - cat ys b) (by simp)) with e | e
    · rw [e]; exact (p.bd i hi).1
    · obtain ⟨b, hb, e⟩ := List.mem_map.mp e
      rw [← e]
      have hb' : b < zs.length - i := by simpa using hb
      have h1 := h (i + b) (by omega)
      have h2 := conv_le (ys := ys) (show i + b < xs.length by rw [p.len]; omega) (show i ≤ i + b by omega)
      rw [show i + b - i = b by omega] at h2
      omega
theorem cat_cons (x : Int) (xs : List Int) : cat (x :: xs) 0 = x := rfl
theorem cat_succ (x : Int) (xs : List Int) (i : Nat) : cat (x :: xs) (i + 1) = cat xs i := rfl
theorem cat_drop (xs : List Int) (i : Nat) : cat (xs.drop 1) i = cat xs (i + 1) := by
  simp [cat, List.getD_eq_getElem?_getD, List.getElem?_drop, Nat.add_comm]
theorem P.first {n : Nat} {B : Int} {xs : List Int} (p : P n B xs) (h : 1 ≤ n) (hB : 0 ≤ B) : P n B (0 :: xs.drop 1) where
  len := by simp [p.len]; omega
  bd := fun i hi => by
    cases i with
    | zero => simp [cat_cons, hB]
    | succ i => rw [cat_succ, cat_drop]; exact p.bd _ hi
  up := fun i hi => by
    cases i with
    | zero => rw [cat_cons, cat_succ, cat_drop]; exact (p.bd _ hi).1
    | succ i => rw [cat_succ, cat_drop, cat_succ, cat_drop]; exact p.up _ hi
theorem conv_first {n : Nat} {A : Int} {xs ys : List Int} (p : P n A xs) (h0 : cat ys 0 = 0) : Le n (conv xs ys) xs := fun i hi => by
  have := conv_le (ys := ys) (show i < xs.length by rw [p.len]; exact hi) (Nat.le_refl i)
  rw [Nat.sub_self, h0] at this
  omega
theorem cat_rep (n : Nat) (x : Int) {i : Nat} (h : i < n) : cat (List.replicate n x) i = x := by
  simp [cat, h]
theorem P.rep (n : Nat) {x : Int} (h : 0 ≤ x) : P n x (List.replicate n x) :=
  ⟨by simp, fun i hi => by rw [cat_rep n x hi]; exact ⟨h, Int.le_refl _⟩, fun i hi => by rw [cat_rep n x (by omega), cat_rep n x hi]; exact Int.le_refl _⟩
theorem P.steep (n : Nat) (h : 1 ≤ n) : P n 1000000 (0 :: List.replicate (n - 1) 1000000) where
  len := by simp; omega
  bd := fun i hi => by
    cases i with
    | zero => simp [cat_cons]
    | succ i => rw [cat_succ, cat_rep _ _ (by omega)]; omega
  up := fun i hi => by
    cases i with
    | zero => rw [cat_cons, cat_succ, cat_rep _ _ (by omega)]; omega
    | succ i => rw [cat_succ, cat_succ, cat_rep _ _ (by omega), cat_rep _ _ (by omega)]; exact Int.le_refl _
theorem conv_steep {n : Nat} {xs : List Int} (p : P n 200 xs) (h : 1 ≤ n) : conv xs (0 :: List.replicate (n - 1) 1000000) = xs := by
  refine cat_ext (conv_len _ _) fun i hi => ?_
  rw [conv_len, p.len] at hi
  apply Int.le_antisymm
  · exact conv_first p rfl i hi
  · obtain ⟨a, ha, e⟩ := conv_ex (ys := 0 :: List.replicate (n - 1) 1000000) (show i < xs.length by rw [p.len]; exact hi)
    rw [e]
    by_cases h : a = i
    · subst h; rw [Nat.sub_self, cat_cons]; omega
    · obtain ⟨j, hj⟩ : ∃ j, i - a = j + 1 := ⟨i - a - 1, by omega⟩
      rw [hj, cat_succ, cat_rep _ _ (by omega)]
      have h1 := (p.bd i hi).2
      have h2 := (p.bd a (by omega)).1
      omega
theorem conv_zero {n : Nat} {A : Int} {xs : List Int} (p : P n A xs) (h : 1 ≤ n) (c : Int) : conv (List.replicate n c) xs = List.replicate n (c + cat xs 0) := by
  refine cat_ext (by simp [conv_len]) fun i hi => ?_
  rw [conv_len, List.length_replicate] at hi
  rw [cat_rep _ _ hi]
  apply Int.le_antisymm
  · have := conv_le (xs := List.replicate n c) (ys := xs) (h := i) (a := i) (by simpa using hi) (Nat.le_refl i)
    rw [cat_rep _ _ hi, Nat.sub_self] at this
    exact this
  · obtain ⟨a, ha, e⟩ := conv_ex (xs := List.replicate n c) (ys := xs) (h := i) (by simpa using hi)
    rw [e, cat_rep _ _ (by omega)]
    have := p.le (Nat.zero_le (i - a)) (by omega)
    omega
def least (xs ys : List Int) : List Int := (xs.zip ys).map fun p => if p.2 < p.1 then p.2 else p.1
theorem least_at {n : Nat} {xs ys : List Int} (l : xs.length = n) (l' : ys.length = n) {i : Nat} (hi : i < n) : cat (least xs ys) i = if cat ys i < cat xs i then cat ys i else cat xs i := by
  have e : (xs.zip ys)[i]? = some (cat xs i, cat ys i) := by
    rw [List.getElem?_zip_eq_some]
    simp [cat, show i < xs.length by omega, show i < ys.length by omega]
  show (least xs ys).getD i 0 = _
  rw [least, List.getD_eq_getElem?_getD, List.getElem?_map, e]
  rfl
theorem least_len {n : Nat} {xs ys : List Int} (l : xs.length = n) (l' : ys.length = n) : (least xs ys).length = n := by simp [least, l, l']
theorem P.least {n : Nat} {B : Int} {xs ys : List Int} (p : P n B xs) (q : P n B ys) : P n B (least xs ys) where
  len := least_len p.len q.len
  bd := fun i hi => by
    rw [least_at p.len q.len hi]
    have := p.bd i hi
    have := q.bd i hi
    split <;> omega
  up := fun i hi => by
    rw [least_at p.len q.len hi, least_at p.len q.len (by omega)]
    have := p.up i hi
    have := q.up i hi
    split <;> split <;> omega
theorem conv_mono {n : Nat} {xs xs' ys : List Int} (l : xs.length = n) (l' : xs'.length = n) (h : Le n xs xs') : Le n (conv xs ys) (conv xs' ys) := fun i hi => by
  obtain ⟨a, ha, e⟩ := conv_ex (xs := xs') (ys := ys) (h := i) (by omega)
  rw [e]
  have h1 := conv_le (xs := xs) (ys := ys) (h := i) (a := a) (by omega) ha
  have h2 := h a (by omega)
  omega
theorem conv_least {n : Nat} {xs zs ys : List Int} (l : xs.length = n) (l' : zs.length = n) : conv (T71.least xs zs) ys = T71.least (conv xs ys) (conv zs ys) := by
  have lm := least_len l l'
  refine cat_ext (by rw [conv_len, lm, least_len (n := n) (by rw [conv_len, l]) (by rw [conv_len, l'])]) fun i hi => ?_
  rw [conv_len, lm] at hi
  rw [least_at (n := n) (by rw [conv_len, l]) (by rw [conv_len, l']) hi]
  apply Int.le_antisymm
  · have h1 := conv_mono (ys := ys) lm l (fun j hj => by rw [least_at l l' hj]; split <;> omega) i hi
    have h2 := conv_mono (ys := ys) lm l' (fun j hj => by rw [least_at l l' hj]; split <;> omega) i hi
    split <;> assumption
  · obtain ⟨a, ha, e⟩ := conv_ex (xs := T71.least xs zs) (ys := ys) (h := i) (by omega)
    rw [e, least_at l l' (by omega)]
    have h1 := conv_le (xs := xs) (ys := ys) (h := i) (a := a) (by omega) ha
    have h2 := conv_le (xs := zs) (ys := ys) (h := i) (a := a) (by omega) ha
    split <;> split <;> omega
end T71
end sec_M71

section sec_L71n
set_option Elab.async false
set_option linter.all false
set_option maxRecDepth 100000
set_option maxHeartbeats 4000000
namespace T71
open PySem PySem.Spec Wk
/-! ## contracts of the further defs -/
def ofInt : D → Int
  | .int i => i
  | _ => 0
def ofCv : D → List Int
  | .tup ds => ds.map ofInt
  | _ => []
theorem ofCv_cv (xs : List Int) : ofCv (cv xs) = xs := by
  simp only [ofCv, cv, List.map_map]
  have : (ofInt ∘ D.int) = id := rfl
  simp [this]
theorem okPair_iff (xs ys : List Int) : OkPair (cv xs) (cv ys) ↔ Curve xs ∧ Curve ys ∧ xs.length = ys.length := by
  constructor
  · rintro ⟨xs', ys', e1, e2, c⟩
    have e1 := cv_inj e1
    have e2 := cv_inj e2
    subst e1 e2
    exact c
  · rintro c
    exact ⟨xs, ys, rfl, rfl, c⟩
def lb (xs : List Int) : List Int := (List.range xs.length).map fun s => mx ((List.range (xs.length - s)).map fun a => xs.getD (a + s) default - xs.getD a default)
def poured (b r : Int) (n : Nat) : List Int := (List.range n).map fun (h : Nat) => if ((h : Nat) : Int) = 0 then 0 else b + r * (h : Int)
def servedF (l r : Int) (n : Nat) : List Int := (List.range n).map fun (h : Nat) => r * (if (h : Int) - l > 0 then (h : Int) - l else 0)
/-- what comes is bounded -/
def Bnd (xs ys : List Int) : Prop := ∀ a h, a ≤ h → h < xs.length → cat xs h - cat xs a ≤ cat ys (h - a)
def cLb : Con := fun ds Q _ => ∃ xs, ds = [cv xs] ∧ Curve xs ∧ Q (cv (lb xs))
def cPour : Con := fun ds Q _ => ∃ (b r : Int) (n : Nat), ds = [.int b, .int r, .int n] ∧ (0 ≤ b ∧ b ≤ 1000) ∧ (0 ≤ r ∧ r ≤ 1000) ∧ (1 ≤ n ∧ n ≤ 60) ∧ Q (cv (poured b r n))
def cServed : Con := fun ds Q _ => ∃ (b r : Int) (n : Nat), ds = [.int b, .int r, .int n] ∧ (0 ≤ b ∧ b ≤ 60) ∧ (0 ≤ r ∧ r ≤ 1000) ∧ (1 ≤ n ∧ n ≤ 60) ∧ Q (cv (servedF b r n))
def cBnd : Con := fun ds Q _ => ∃ xs ys, ds = [cv xs, cv ys] ∧ Curve xs ∧ Curve ys ∧ xs.length = ys.length ∧ ∀ b : Bool, (b = true ↔ Bnd xs ys) → Q (.bl b)
theorem two_ok {f : List Int → List Int → List Int} {xs ys : List Int} (cx : Curve xs) (cy : Curve ys) (l : xs.length = ys.length) {Q : D → Prop} {Z : Err → Prop} (q : Q (cv (f xs ys))) : mc (cTwo f) [cv xs, cv ys] Q Z :=
  mc_iff ⟨_, _, rfl, fun xs' ys' e1 e2 _ _ _ => by
    have e1 := cv_inj e1
    have e2 := cv_inj e2
    subst e1 e2
    exact q, fun no => absurd ⟨xs, ys, rfl, rfl, cx, cy, l⟩ no⟩
theorem two_no {f : List Int → List Int → List Int} {a b : D} (no : ¬ OkPair a b) {Q : D → Prop} {Z : Err → Prop} (z : Z noCurve) : mc (cTwo f) [a, b] Q Z :=
  mc_iff ⟨a, b, rfl, fun xs ys e1 e2 c1 c2 l => absurd ⟨xs, ys, e1, e2, c1, c2, l⟩ no, fun _ => z⟩
theorem three_ok {a b : D} {Q : D → Prop} {Z : Err → Prop} (h : OkPair a b) (q : Q .non) : mc c3 [a, b] Q Z := mc_iff ⟨a, b, rfl, fun _ => q, fun no => absurd h no⟩
theorem within_ok (i a b : Int) (Q : D → Prop) (Z : Err → Prop) : mc c1 [.int i, .int a, .int b] Q Z = Q (.bl (decide (a ≤ i) && decide (i ≤ b))) := by
  apply propext
  constructor
  · rintro ⟨Q', Z', ⟨d, a', b', e, q⟩, h, _⟩
    cases e
    exact h _ q
  · intro q
    exact mc_iff ⟨_, _, _, rfl, q⟩
theorem eqDs_iff : ∀ (xs ys : List Int), eqDs (xs.map D.int) (ys.map D.int) = decide (xs = ys)
  | [], [] => rfl
  | [], _ :: _ => rfl
  | _ :: _, [] => rfl
  | x :: xs, y :: ys => by
    simp only [List.map_cons, eqDs, eqD, eqDs_iff xs ys, List.cons.injEq]
    by_cases h : x = y <;> simp [h]
theorem eqD_cvs (xs ys : List Int) : eqD (cv xs) (cv ys) = decide (xs = ys) := by simp only [cv, eqD, eqDs_iff]
theorem pls_int (xs : List Int) : pls (xs.map D.int) = true := by
  induction xs with
  | nil => rfl
  | cons x xs ih => simp [pls, pl, ih]
theorem deps_int (xs : List Int) : deps (xs.map D.int) = 0 := by
  induction xs with
  | nil => rfl
  | cons x xs ih => simp [deps, dep, ih]
theorem eqOk_cv (xs ys : List Int) : eqOk (cv xs) (cv ys) := ⟨by simp [cv, pl, pls_int], by simp [cv, pl, pls_int], .inl (by simp [cv, dep, deps_int])⟩
theorem cl_cv (xs : List Int) : Wk.cl (cv xs) = true := by simp [cv, Wk.cl, cls_int]
theorem fr_cv (xs : List Int) : Wk.fr (cv xs) = cv xs := by simp only [cv, Wk.fr, frs_int]
theorem drop_cv (xs : List Int) : Wk.cutD (xs.map D.int) (some 1) none = (xs.drop 1).map D.int := by rw [cut1, List.map_drop]
variable (C : Nat → Con) (S : Nat → Except Err D → (D → Prop) → Prop) (k : Nat)
theorem n8 (h3 : C 3 = c3) : ∀ ds Q Z, ds.length = 1 → Wk.frs ds = ds → cLb ds Q Z → wps (GG C k S) s_least_bound (entry N_least_bound ds) (endPost Q Z) := by
  rintro ds Q Z hl hf ⟨xs, rfl, cx, q⟩
  simp only [s_least_bound, N_least_bound, h3, v_var, v_int, v_bl, v_non, v_str, v_glo, v_bin, v_neg, v_cmp, v_chain, v_and, v_or, v_not, v_ite, v_tup, v_lst, v_dnew, v_idx, v_sl, v_rev, v_call, v_blt, v_isi, v_said, v_lc, vs_nil, vs_cons, vO_none, vO_some, vC_none, vC_some, va_one, va_cons, vo_one, vo_cons, w_asg, w_mov, w_lcs, w_par, w_par3, w_app, w_set, w_aug, w_ret, w_retL, w_retA, w_movA, w_retv, w_retN, w_ife, w_whl, w_fr, w_frL, w_expr, w_rse, w_pas, w_brk, w_cnt, ws_nil, ws_cons, restr, frzL, augW, optV_some, getV_some, intV_int, blV_bl, ownV_lst, entry, List.map_cons, List.map_nil, List.length_cons, List.length_nil, endPost, List.getElem?_cons_zero, List.getElem?_cons_succ, List.cons_append, List.nil_append, Wk.fr, Wk.frs, b_add, b_sub, b_mul, b_div, b_mod, b_pow, b_addT, b_addL, b_mulL, b_mulT, q_lt, q_le, q_gt, q_ge, q_eq, q_ne, q_isN, q_isnN, l_tup, l_lst, l_scr, r_tup, r_lst, a_lenT, a_lenL, a_abs, a_int, a_tupT, a_tupL, a_lstT, a_lstL, a_min2, a_max2, s_seqT, s_seqL, rng_m, rng2_m, s_enm, s_zipT, s_zipL, t_name, t_tupT, t_tupL, t_nil, t_cons, u_bl, u_int, u_tup, u_lst, isiD, ty_int_int, ty_int_bool, ty_int_str, ty_int_tuple, ty_int_list, ty_int_dict, ty_bool_int, ty_bool_bool, ty_bool_str, ty_bool_tuple, ty_bool_list, ty_bool_dict, ty_str_int, ty_str_bool, ty_str_str, ty_str_tuple, ty_str_list, ty_str_dict, ty_tuple_int, ty_tuple_bool, ty_tuple_str, ty_tuple_tuple, ty_tuple_list, ty_tuple_dict, ty_list_int, ty_list_bool, ty_list_str, ty_list_tuple, ty_list_list, ty_list_dict, ty_dict_int, ty_dict_bool, ty_dict_str, ty_dict_tuple, ty_dict_list, ty_dict_dict, Bool.not_true, Bool.not_false, Bool.or_false, Bool.false_or, Bool.or_true, Bool.true_or, List.set_cons_zero, List.set_cons_succ, wipeE, Nat.zero_add, Nat.reduceAdd, Nat.reduceSub, List.replicate_succ, List.replicate_zero, Option.bind_some, if_true, Int.toNat_natCast, ne0_1, ne0_2, ne0_3, ne0_4, true_and, and_true, Option.map_some, if_false, n_non, n_bl, n_int, n_str, n_tup, n_lst, Bool.false_eq_true, List.contains_cons, List.contains_nil, Nat.reduceBEq, BEq.rfl, decide_true, decide_false, andL, compW_K, compK_map, ite_KK, ite_PK, ite_KP, ite_PP, ite_some, ite_dint, ite_dbl, ck_opt, ck_opt0, fm_some, fm_if, fm_dec, ck_draw, ck_draw0, ix_tm, ix_lm, ix0, ix1, ix2, ix3, Int.toNat_sub, ← Int.natCast_add, Int.toNat_natCast_add_one, min_m, max_m, min_mc, max_mc, sum_m, all_m, any_m, zip_m, enm_m, frs_mapf, mc_pp, mc_draw, getI_nat, inb_nat, List.length_map, List.length_range, List.mem_range, List.length_zip, List.length_append, wfor_map, decide_eq_true_eq, reduceCtorEq, eqOk_intT, eqOk_blT, nc_one, nc_suc, nc_pre, nc_pre2, nc_sub, cast_sub1, cast_sub2, e_intN, e_blN, beq_iff_eq, Bool.and_true, Bool.true_and, Bool.and_false, Bool.false_and]
  refine three_ok ⟨xs, xs, rfl, rfl, cx, cx, rfl⟩ ⟨⟨⟨⟨⟨rfl, by omega⟩, ?_⟩, ?_⟩, ?_⟩, ?_⟩
  · have := cx.len; omega
  · have := cx.len; omega
  · intro y hy
    have := cx.len
    refine ⟨⟨⟨⟨by omega, by omega⟩, by omega⟩, fun z hz => ⟨by omega, by omega⟩⟩, ?_⟩
    intro e
    rw [List.range_eq_nil] at e
    omega
  · simp only [lb, cv, List.map_map] at q
    exact q
theorem n5 (h1 : C 1 = c1) : ∀ ds Q Z, ds.length = 3 → Wk.frs ds = ds → cPour ds Q Z → wps (GG C k S) s_bucket (entry N_bucket ds) (endPost Q Z) := by
  rintro ds Q Z hl hf ⟨b, r, n, rfl, ⟨b0, b1⟩, ⟨r0, r1⟩, ⟨n0, n1⟩, q⟩
  have n0' : (1 : Int) ≤ n := by omega
  have n1' : (n : Int) ≤ 60 := by omega
  (simp only [s_bucket, N_bucket, h1, within_ok, b0, b1, r0, r1, n0', n1', show (conF "MOST" = some 1000000) from rfl, show (conF "MOST_LONG" = some 60) from rfl, v_var, v_int, v_bl, v_non, v_str, v_glo, v_bin, v_neg, v_cmp, v_chain, v_and, v_or, v_not, v_ite, v_tup, v_lst, v_dnew, v_idx, v_sl, v_rev, v_call, v_blt, v_isi, v_said, v_lc, vs_nil, vs_cons, vO_none, vO_some, vC_none, vC_some, va_one, va_cons, vo_one, vo_cons, w_asg, w_mov, w_lcs, w_par, w_par3, w_app, w_set, w_aug, w_ret, w_retL, w_retA, w_movA, w_retv, w_retN, w_ife, w_whl, w_fr, w_frL, w_expr, w_rse, w_pas, w_brk, w_cnt, ws_nil, ws_cons, restr, frzL, augW, optV_some, getV_some, intV_int, blV_bl, ownV_lst, entry, List.map_cons, List.map_nil, List.length_cons, List.length_nil, endPost, List.getElem?_cons_zero, List.getElem?_cons_succ, List.cons_append, List.nil_append, Wk.fr, Wk.frs, b_add, b_sub, b_mul, b_div, b_mod, b_pow, b_addT, b_addL, b_mulL, b_mulT, q_lt, q_le, q_gt, q_ge, q_eq, q_ne, q_isN, q_isnN, l_tup, l_lst, l_scr, r_tup, r_lst, a_lenT, a_lenL, a_abs, a_int, a_tupT, a_tupL, a_lstT, a_lstL, a_min2, a_max2, s_seqT, s_seqL, rng_m, rng2_m, s_enm, s_zipT, s_zipL, t_name, t_tupT, t_tupL, t_nil, t_cons, u_bl, u_int, u_tup, u_lst, isiD, ty_int_int, ty_int_bool, ty_int_str, ty_int_tuple, ty_int_list, ty_int_dict, ty_bool_int, ty_bool_bool, ty_bool_str, ty_bool_tuple, ty_bool_list, ty_bool_dict, ty_str_int, ty_str_bool, ty_str_str, ty_str_tuple, ty_str_list, ty_str_dict, ty_tuple_int, ty_tuple_bool, ty_tuple_str, ty_tuple_tuple, ty_tuple_list, ty_tuple_dict, ty_list_int, ty_list_bool, ty_list_str, ty_list_tuple, ty_list_list, ty_list_dict, ty_dict_int, ty_dict_bool, ty_dict_str, ty_dict_tuple, ty_dict_list, ty_dict_dict, Bool.not_true, Bool.not_false, Bool.or_false, Bool.false_or, Bool.or_true, Bool.true_or, List.set_cons_zero, List.set_cons_succ, wipeE, Nat.zero_add, Nat.reduceAdd, Nat.reduceSub, List.replicate_succ, List.replicate_zero, Option.bind_some, if_true, Int.toNat_natCast, ne0_1, ne0_2, ne0_3, ne0_4, true_and, and_true, Option.map_some, if_false, n_non, n_bl, n_int, n_str, n_tup, n_lst, Bool.false_eq_true, List.contains_cons, List.contains_nil, Nat.reduceBEq, BEq.rfl, decide_true, decide_false, andL, compW_K, compK_map, ite_KK, ite_PK, ite_KP, ite_PP, ite_some, ite_dint, ite_dbl, ck_opt, ck_opt0, fm_some, fm_if, fm_dec, ck_draw, ck_draw0, ix_tm, ix_lm, ix0, ix1, ix2, ix3, Int.toNat_sub, ← Int.natCast_add, Int.toNat_natCast_add_one, min_m, max_m, min_mc, max_mc, sum_m, all_m, any_m, zip_m, enm_m, frs_mapf, mc_pp, mc_draw, getI_nat, inb_nat, List.length_map, List.length_range, List.mem_range, List.length_zip, List.length_append, wfor_map, decide_eq_true_eq, reduceCtorEq, eqOk_intT, eqOk_blT, nc_one, nc_suc, nc_pre, nc_pre2, nc_sub, cast_sub1, cast_sub2, e_intN, e_blN, beq_iff_eq, Bool.and_true, Bool.true_and, Bool.and_false, Bool.false_and]; try simp only [s_bucket, N_bucket, h1, within_ok, b0, b1, r0, r1, n0', n1', show (conF "MOST" = some 1000000) from rfl, show (conF "MOST_LONG" = some 60) from rfl, v_var, v_int, v_bl, v_non, v_str, v_glo, v_bin, v_neg, v_cmp, v_chain, v_and, v_or, v_not, v_ite, v_tup, v_lst, v_dnew, v_idx, v_sl, v_rev, v_call, v_blt, v_isi, v_said, v_lc, vs_nil, vs_cons, vO_none, vO_some, vC_none, vC_some, va_one, va_cons, vo_one, vo_cons, w_asg, w_mov, w_lcs, w_par, w_par3, w_app, w_set, w_aug, w_ret, w_retL, w_retA, w_movA, w_retv, w_retN, w_ife, w_whl, w_fr, w_frL, w_expr, w_rse, w_pas, w_brk, w_cnt, ws_nil, ws_cons, restr, frzL, augW, optV_some, getV_some, intV_int, blV_bl, ownV_lst, entry, List.map_cons, List.map_nil, List.length_cons, List.length_nil, endPost, List.getElem?_cons_zero, List.getElem?_cons_succ, List.cons_append, List.nil_append, Wk.fr, Wk.frs, b_add, b_sub, b_mul, b_div, b_mod, b_pow, b_addT, b_addL, b_mulL, b_mulT, q_lt, q_le, q_gt, q_ge, q_eq, q_ne, q_isN, q_isnN, l_tup, l_lst, l_scr, r_tup, r_lst, a_lenT, a_lenL, a_abs, a_int, a_tupT, a_tupL, a_lstT, a_lstL, a_min2, a_max2, s_seqT, s_seqL, rng_m, rng2_m, s_enm, s_zipT, s_zipL, t_name, t_tupT, t_tupL, t_nil, t_cons, u_bl, u_int, u_tup, u_lst, isiD, ty_int_int, ty_int_bool, ty_int_str, ty_int_tuple, ty_int_list, ty_int_dict, ty_bool_int, ty_bool_bool, ty_bool_str, ty_bool_tuple, ty_bool_list, ty_bool_dict, ty_str_int, ty_str_bool, ty_str_str, ty_str_tuple, ty_str_list, ty_str_dict, ty_tuple_int, ty_tuple_bool, ty_tuple_str, ty_tuple_tuple, ty_tuple_list, ty_tuple_dict, ty_list_int, ty_list_bool, ty_list_str, ty_list_tuple, ty_list_list, ty_list_dict, ty_dict_int, ty_dict_bool, ty_dict_str, ty_dict_tuple, ty_dict_list, ty_dict_dict, Bool.not_true, Bool.not_false, Bool.or_false, Bool.false_or, Bool.or_true, Bool.true_or, List.set_cons_zero, List.set_cons_succ, wipeE, Nat.zero_add, Nat.reduceAdd, Nat.reduceSub, List.replicate_succ, List.replicate_zero, Option.bind_some, if_true, Int.toNat_natCast, ne0_1, ne0_2, ne0_3, ne0_4, true_and, and_true, Option.map_some, if_false, n_non, n_bl, n_int, n_str, n_tup, n_lst, Bool.false_eq_true, List.contains_cons, List.contains_nil, Nat.reduceBEq, BEq.rfl, decide_true, decide_false, andL, compW_K, compK_map, ite_KK, ite_PK, ite_KP, ite_PP, ite_some, ite_dint, ite_dbl, ck_opt, ck_opt0, fm_some, fm_if, fm_dec, ck_draw, ck_draw0, ix_tm, ix_lm, ix0, ix1, ix2, ix3, Int.toNat_sub, ← Int.natCast_add, Int.toNat_natCast_add_one, min_m, max_m, min_mc, max_mc, sum_m, all_m, any_m, zip_m, enm_m, frs_mapf, mc_pp, mc_draw, getI_nat, inb_nat, List.length_map, List.length_range, List.mem_range, List.length_zip, List.length_append, wfor_map, decide_eq_true_eq, reduceCtorEq, eqOk_intT, eqOk_blT, nc_one, nc_suc, nc_pre, nc_pre2, nc_sub, cast_sub1, cast_sub2, e_intN, e_blN, beq_iff_eq, Bool.and_true, Bool.true_and, Bool.and_false, Bool.false_and])
  refine ⟨⟨⟨⟨by omega, by omega⟩, by omega⟩, fun y hy _ => mul_small r0 (by omega)⟩, ?_⟩
  simp only [poured, cv, List.map_map] at q
  exact q
theorem n6 (h1 : C 1 = c1) : ∀ ds Q Z, ds.length = 3 → Wk.frs ds = ds → cServed ds Q Z → wps (GG C k S) s_served_at (entry N_served_at ds) (endPost Q Z) := by
  rintro ds Q Z hl hf ⟨b, r, n, rfl, ⟨b0, b1⟩, ⟨r0, r1⟩, ⟨n0, n1⟩, q⟩
  have n0' : (1 : Int) ≤ n := by omega
  have n1' : (n : Int) ≤ 60 := by omega
  (simp only [s_served_at, N_served_at, h1, within_ok, b0, b1, r0, r1, n0', n1', show (conF "MOST" = some 1000000) from rfl, show (conF "MOST_LONG" = some 60) from rfl, v_var, v_int, v_bl, v_non, v_str, v_glo, v_bin, v_neg, v_cmp, v_chain, v_and, v_or, v_not, v_ite, v_tup, v_lst, v_dnew, v_idx, v_sl, v_rev, v_call, v_blt, v_isi, v_said, v_lc, vs_nil, vs_cons, vO_none, vO_some, vC_none, vC_some, va_one, va_cons, vo_one, vo_cons, w_asg, w_mov, w_lcs, w_par, w_par3, w_app, w_set, w_aug, w_ret, w_retL, w_retA, w_movA, w_retv, w_retN, w_ife, w_whl, w_fr, w_frL, w_expr, w_rse, w_pas, w_brk, w_cnt, ws_nil, ws_cons, restr, frzL, augW, optV_some, getV_some, intV_int, blV_bl, ownV_lst, entry, List.map_cons, List.map_nil, List.length_cons, List.length_nil, endPost, List.getElem?_cons_zero, List.getElem?_cons_succ, List.cons_append, List.nil_append, Wk.fr, Wk.frs, b_add, b_sub, b_mul, b_div, b_mod, b_pow, b_addT, b_addL, b_mulL, b_mulT, q_lt, q_le, q_gt, q_ge, q_eq, q_ne, q_isN, q_isnN, l_tup, l_lst, l_scr, r_tup, r_lst, a_lenT, a_lenL, a_abs, a_int, a_tupT, a_tupL, a_lstT, a_lstL, a_min2, a_max2, s_seqT, s_seqL, rng_m, rng2_m, s_enm, s_zipT, s_zipL, t_name, t_tupT, t_tupL, t_nil, t_cons, u_bl, u_int, u_tup, u_lst, isiD, ty_int_int, ty_int_bool, ty_int_str, ty_int_tuple, ty_int_list, ty_int_dict, ty_bool_int, ty_bool_bool, ty_bool_str, ty_bool_tuple, ty_bool_list, ty_bool_dict, ty_str_int, ty_str_bool, ty_str_str, ty_str_tuple, ty_str_list, ty_str_dict, ty_tuple_int, ty_tuple_bool, ty_tuple_str, ty_tuple_tuple, ty_tuple_list, ty_tuple_dict, ty_list_int, ty_list_bool, ty_list_str, ty_list_tuple, ty_list_list, ty_list_dict, ty_dict_int, ty_dict_bool, ty_dict_str, ty_dict_tuple, ty_dict_list, ty_dict_dict, Bool.not_true, Bool.not_false, Bool.or_false, Bool.false_or, Bool.or_true, Bool.true_or, List.set_cons_zero, List.set_cons_succ, wipeE, Nat.zero_add, Nat.reduceAdd, Nat.reduceSub, List.replicate_succ, List.replicate_zero, Option.bind_some, if_true, Int.toNat_natCast, ne0_1, ne0_2, ne0_3, ne0_4, true_and, and_true, Option.map_some, if_false, n_non, n_bl, n_int, n_str, n_tup, n_lst, Bool.false_eq_true, List.contains_cons, List.contains_nil, Nat.reduceBEq, BEq.rfl, decide_true, decide_false, andL, compW_K, compK_map, ite_KK, ite_PK, ite_KP, ite_PP, ite_some, ite_dint, ite_dbl, ck_opt, ck_opt0, fm_some, fm_if, fm_dec, ck_draw, ck_draw0, ix_tm, ix_lm, ix0, ix1, ix2, ix3, Int.toNat_sub, ← Int.natCast_add, Int.toNat_natCast_add_one, min_m, max_m, min_mc, max_mc, sum_m, all_m, any_m, zip_m, enm_m, frs_mapf, mc_pp, mc_draw, getI_nat, inb_nat, List.length_map, List.length_range, List.mem_range, List.length_zip, List.length_append, wfor_map, decide_eq_true_eq, reduceCtorEq, eqOk_intT, eqOk_blT, nc_one, nc_suc, nc_pre, nc_pre2, nc_sub, cast_sub1, cast_sub2, e_intN, e_blN, beq_iff_eq, Bool.and_true, Bool.true_and, Bool.and_false, Bool.false_and]; try simp only [s_served_at, N_served_at, h1, within_ok, b0, b1, r0, r1, n0', n1', show (conF "MOST" = some 1000000) from rfl, show (conF "MOST_LONG" = some 60) from rfl, v_var, v_int, v_bl, v_non, v_str, v_glo, v_bin, v_neg, v_cmp, v_chain, v_and, v_or, v_not, v_ite, v_tup, v_lst, v_dnew, v_idx, v_sl, v_rev, v_call, v_blt, v_isi, v_said, v_lc, vs_nil, vs_cons, vO_none, vO_some, vC_none, vC_some, va_one, va_cons, vo_one, vo_cons, w_asg, w_mov, w_lcs, w_par, w_par3, w_app, w_set, w_aug, w_ret, w_retL, w_retA, w_movA, w_retv, w_retN, w_ife, w_whl, w_fr, w_frL, w_expr, w_rse, w_pas, w_brk, w_cnt, ws_nil, ws_cons, restr, frzL, augW, optV_some, getV_some, intV_int, blV_bl, ownV_lst, entry, List.map_cons, List.map_nil, List.length_cons, List.length_nil, endPost, List.getElem?_cons_zero, List.getElem?_cons_succ, List.cons_append, List.nil_append, Wk.fr, Wk.frs, b_add, b_sub, b_mul, b_div, b_mod, b_pow, b_addT, b_addL, b_mulL, b_mulT, q_lt, q_le, q_gt, q_ge, q_eq, q_ne, q_isN, q_isnN, l_tup, l_lst, l_scr, r_tup, r_lst, a_lenT, a_lenL, a_abs, a_int, a_tupT, a_tupL, a_lstT, a_lstL, a_min2, a_max2, s_seqT, s_seqL, rng_m, rng2_m, s_enm, s_zipT, s_zipL, t_name, t_tupT, t_tupL, t_nil, t_cons, u_bl, u_int, u_tup, u_lst, isiD, ty_int_int, ty_int_bool, ty_int_str, ty_int_tuple, ty_int_list, ty_int_dict, ty_bool_int, ty_bool_bool, ty_bool_str, ty_bool_tuple, ty_bool_list, ty_bool_dict, ty_str_int, ty_str_bool, ty_str_str, ty_str_tuple, ty_str_list, ty_str_dict, ty_tuple_int, ty_tuple_bool, ty_tuple_str, ty_tuple_tuple, ty_tuple_list, ty_tuple_dict, ty_list_int, ty_list_bool, ty_list_str, ty_list_tuple, ty_list_list, ty_list_dict, ty_dict_int, ty_dict_bool, ty_dict_str, ty_dict_tuple, ty_dict_list, ty_dict_dict, Bool.not_true, Bool.not_false, Bool.or_false, Bool.false_or, Bool.or_true, Bool.true_or, List.set_cons_zero, List.set_cons_succ, wipeE, Nat.zero_add, Nat.reduceAdd, Nat.reduceSub, List.replicate_succ, List.replicate_zero, Option.bind_some, if_true, Int.toNat_natCast, ne0_1, ne0_2, ne0_3, ne0_4, true_and, and_true, Option.map_some, if_false, n_non, n_bl, n_int, n_str, n_tup, n_lst, Bool.false_eq_true, List.contains_cons, List.contains_nil, Nat.reduceBEq, BEq.rfl, decide_true, decide_false, andL, compW_K, compK_map, ite_KK, ite_PK, ite_KP, ite_PP, ite_some, ite_dint, ite_dbl, ck_opt, ck_opt0, fm_some, fm_if, fm_dec, ck_draw, ck_draw0, ix_tm, ix_lm, ix0, ix1, ix2, ix3, Int.toNat_sub, ← Int.natCast_add, Int.toNat_natCast_add_one, min_m, max_m, min_mc, max_mc, sum_m, all_m, any_m, zip_m, enm_m, frs_mapf, mc_pp, mc_draw, getI_nat, inb_nat, List.length_map, List.length_range, List.mem_range, List.length_zip, List.length_append, wfor_map, decide_eq_true_eq, reduceCtorEq, eqOk_intT, eqOk_blT, nc_one, nc_suc, nc_pre, nc_pre2, nc_sub, cast_sub1, cast_sub2, e_intN, e_blN, beq_iff_eq, Bool.and_true, Bool.true_and, Bool.and_false, Bool.false_and])
  refine ⟨⟨⟨⟨by omega, by omega⟩, by omega⟩, fun y hy => mul_small r0 (by omega)⟩, ?_⟩
  simp only [servedF, cv, List.map_map] at q
  exact q
theorem n7 (h3 : C 3 = c3) : ∀ ds Q Z, ds.length = 2 → Wk.frs ds = ds → cBnd ds Q Z → wps (GG C k S) s_is_bounded (entry N_is_bounded ds) (endPost Q Z) := by
  rintro ds Q Z hl hf ⟨xs, ys, rfl, cx, cy, l, q⟩
  simp only [s_is_bounded, N_is_bounded, h3, v_var, v_int, v_bl, v_non, v_str, v_glo, v_bin, v_neg, v_cmp, v_chain, v_and, v_or, v_not, v_ite, v_tup, v_lst, v_dnew, v_idx, v_sl, v_rev, v_call, v_blt, v_isi, v_said, v_lc, vs_nil, vs_cons, vO_none, vO_some, vC_none, vC_some, va_one, va_cons, vo_one, vo_cons, w_asg, w_mov, w_lcs, w_par, w_par3, w_app, w_set, w_aug, w_ret, w_retL, w_retA, w_movA, w_retv, w_retN, w_ife, w_whl, w_fr, w_frL, w_expr, w_rse, w_pas, w_brk, w_cnt, ws_nil, ws_cons, restr, frzL, augW, optV_some, getV_some, intV_int, blV_bl, ownV_lst, entry, List.map_cons, List.map_nil, List.length_cons, List.length_nil, endPost, List.getElem?_cons_zero, List.getElem?_cons_succ, List.cons_append, List.nil_append, Wk.fr, Wk.frs, b_add, b_sub, b_mul, b_div, b_mod, b_pow, b_addT, b_addL, b_mulL, b_mulT, q_lt, q_le, q_gt, q_ge, q_eq, q_ne, q_isN, q_isnN, l_tup, l_lst, l_scr, r_tup, r_lst, a_lenT, a_lenL, a_abs, a_int, a_tupT, a_tupL, a_lstT, a_lstL, a_min2, a_max2, s_seqT, s_seqL, rng_m, rng2_m, s_enm, s_zipT, s_zipL, t_name, t_tupT, t_tupL, t_nil, t_cons, u_bl, u_int, u_tup, u_lst, isiD, ty_int_int, ty_int_bool, ty_int_str, ty_int_tuple, ty_int_list, ty_int_dict, ty_bool_int, ty_bool_bool, ty_bool_str, ty_bool_tuple, ty_bool_list, ty_bool_dict, ty_str_int, ty_str_bool, ty_str_str, ty_str_tuple, ty_str_list, ty_str_dict, ty_tuple_int, ty_tuple_bool, ty_tuple_str, ty_tuple_tuple, ty_tuple_list, ty_tuple_dict, ty_list_int, ty_list_bool, ty_list_str, ty_list_tuple, ty_list_list, ty_list_dict, ty_dict_int, ty_dict_bool, ty_dict_str, ty_dict_tuple, ty_dict_list, ty_dict_dict, Bool.not_true, Bool.not_false, Bool.or_false, Bool.false_or, Bool.or_true, Bool.true_or, List.set_cons_zero, List.set_cons_succ, wipeE, Nat.zero_add, Nat.reduceAdd, Nat.reduceSub, List.replicate_succ, List.replicate_zero, Option.bind_some, if_true, Int.toNat_natCast, ne0_1, ne0_2, ne0_3, ne0_4, true_and, and_true, Option.map_some, if_false, n_non, n_bl, n_int, n_str, n_tup, n_lst, Bool.false_eq_true, List.contains_cons, List.contains_nil, Nat.reduceBEq, BEq.rfl, decide_true, decide_false, andL, compW_K, compK_map, ite_KK, ite_PK, ite_KP, ite_PP, ite_some, ite_dint, ite_dbl, ck_opt, ck_opt0, fm_some, fm_if, fm_dec, ck_draw, ck_draw0, ix_tm, ix_lm, ix0, ix1, ix2, ix3, Int.toNat_sub, ← Int.natCast_add, Int.toNat_natCast_add_one, min_m, max_m, min_mc, max_mc, sum_m, all_m, any_m, zip_m, enm_m, frs_mapf, mc_pp, mc_draw, getI_nat, inb_nat, List.length_map, List.length_range, List.mem_range, List.length_zip, List.length_append, wfor_map, decide_eq_true_eq, reduceCtorEq, eqOk_intT, eqOk_blT, nc_one, nc_suc, nc_pre, nc_pre2, nc_sub, cast_sub1, cast_sub2, e_intN, e_blN, beq_iff_eq, Bool.and_true, Bool.true_and, Bool.and_false, Bool.false_and]
  refine three_ok ⟨xs, ys, rfl, rfl, cx, cy, l⟩ ⟨⟨by omega, by have := cx.len; omega⟩, ?_⟩
  refine wfor_rng (fun i e => (∃ z1 z2, e = [some (cv xs), some (cv ys), z1, z2]) ∧ ∀ a h, a < i → a ≤ h → h < xs.length → cat xs h - cat xs a ≤ cat ys (h - a)) ⟨⟨_, _, rfl⟩, fun a h ha => by omega⟩ (fun e ⟨_, he⟩ => q true ⟨fun _ a h h1 h2 => he a h (by omega) h1 h2, fun _ => rfl⟩) ?_
  rintro i hi e ⟨⟨z1, z2, rfl⟩, he⟩ N hN
  unfold turnW
  (simp only [v_var, v_int, v_bl, v_non, v_str, v_glo, v_bin, v_neg, v_cmp, v_chain, v_and, v_or, v_not, v_ite, v_tup, v_lst, v_dnew, v_idx, v_sl, v_rev, v_call, v_blt, v_isi, v_said, v_lc, vs_nil, vs_cons, vO_none, vO_some, vC_none, vC_some, va_one, va_cons, vo_one, vo_cons, w_asg, w_mov, w_lcs, w_par, w_par3, w_app, w_set, w_aug, w_ret, w_retL, w_retA, w_movA, w_retv, w_retN, w_ife, w_whl, w_fr, w_frL, w_expr, w_rse, w_pas, w_brk, w_cnt, ws_nil, ws_cons, restr, frzL, augW, optV_some, getV_some, intV_int, blV_bl, ownV_lst, entry, List.map_cons, List.map_nil, List.length_cons, List.length_nil, endPost, List.getElem?_cons_zero, List.getElem?_cons_succ, List.cons_append, List.nil_append, Wk.fr, Wk.frs, b_add, b_sub, b_mul, b_div, b_mod, b_pow, b_addT, b_addL, b_mulL, b_mulT, q_lt, q_le, q_gt, q_ge, q_eq, q_ne, q_isN, q_isnN, l_tup, l_lst, l_scr, r_tup, r_lst, a_lenT, a_lenL, a_abs, a_int, a_tupT, a_tupL, a_lstT, a_lstL, a_min2, a_max2, s_seqT, s_seqL, rng_m, rng2_m, s_enm, s_zipT, s_zipL, t_name, t_tupT, t_tupL, t_nil, t_cons, u_bl, u_int, u_tup, u_lst, isiD, ty_int_int, ty_int_bool, ty_int_str, ty_int_tuple, ty_int_list, ty_int_dict, ty_bool_int, ty_bool_bool, ty_bool_str, ty_bool_tuple, ty_bool_list, ty_bool_dict, ty_str_int, ty_str_bool, ty_str_str, ty_str_tuple, ty_str_list, ty_str_dict, ty_tuple_int, ty_tuple_bool, ty_tuple_str, ty_tuple_tuple, ty_tuple_list, ty_tuple_dict, ty_list_int, ty_list_bool, ty_list_str, ty_list_tuple, ty_list_list, ty_list_dict, ty_dict_int, ty_dict_bool, ty_dict_str, ty_dict_tuple, ty_dict_list, ty_dict_dict, Bool.not_true, Bool.not_false, Bool.or_false, Bool.false_or, Bool.or_true, Bool.true_or, List.set_cons_zero, List.set_cons_succ, wipeE, Nat.zero_add, Nat.reduceAdd, Nat.reduceSub, List.replicate_succ, List.replicate_zero, Option.bind_some, if_true, Int.toNat_natCast, ne0_1, ne0_2, ne0_3, ne0_4, true_and, and_true, Option.map_some, if_false, n_non, n_bl, n_int, n_str, n_tup, n_lst, Bool.false_eq_true, List.contains_cons, List.contains_nil, Nat.reduceBEq, BEq.rfl, decide_true, decide_false, andL, compW_K, compK_map, ite_KK, ite_PK, ite_KP, ite_PP, ite_some, ite_dint, ite_dbl, ck_opt, ck_opt0, fm_some, fm_if, fm_dec, ck_draw, ck_draw0, ix_tm, ix_lm, ix0, ix1, ix2, ix3, Int.toNat_sub, ← Int.natCast_add, Int.toNat_natCast_add_one, min_m, max_m, min_mc, max_mc, sum_m, all_m, any_m, zip_m, enm_m, frs_mapf, mc_pp, mc_draw, getI_nat, inb_nat, List.length_map, List.length_range, List.mem_range, List.length_zip, List.length_append, wfor_map, decide_eq_true_eq, reduceCtorEq, eqOk_intT, eqOk_blT, nc_one, nc_suc, nc_pre, nc_pre2, nc_sub, cast_sub1, cast_sub2, e_intN, e_blN, beq_iff_eq, Bool.and_true, Bool.true_and, Bool.and_false, Bool.false_and]; try simp only [v_var, v_int, v_bl, v_non, v_str, v_glo, v_bin, v_neg, v_cmp, v_chain, v_and, v_or, v_not, v_ite, v_tup, v_lst, v_dnew, v_idx, v_sl, v_rev, v_call, v_blt, v_isi, v_said, v_lc, vs_nil, vs_cons, vO_none, vO_some, vC_none, vC_some, va_one, va_cons, vo_one, vo_cons, w_asg, w_mov, w_lcs, w_par, w_par3, w_app, w_set, w_aug, w_ret, w_retL, w_retA, w_movA, w_retv, w_retN, w_ife, w_whl, w_fr, w_frL, w_expr, w_rse, w_pas, w_brk, w_cnt, ws_nil, ws_cons, restr, frzL, augW, optV_some, getV_some, intV_int, blV_bl, ownV_lst, entry, List.map_cons, List.map_nil, List.length_cons, List.length_nil, endPost, List.getElem?_cons_zero, List.getElem?_cons_succ, List.cons_append, List.nil_append, Wk.fr, Wk.frs, b_add, b_sub, b_mul, b_div, b_mod, b_pow, b_addT, b_addL, b_mulL, b_mulT, q_lt, q_le, q_gt, q_ge, q_eq, q_ne, q_isN, q_isnN, l_tup, l_lst, l_scr, r_tup, r_lst, a_lenT, a_lenL, a_abs, a_int, a_tupT, a_tupL, a_lstT, a_lstL, a_min2, a_max2, s_seqT, s_seqL, rng_m, rng2_m, s_enm, s_zipT, s_zipL, t_name, t_tupT, t_tupL, t_nil, t_cons, u_bl, u_int, u_tup, u_lst, isiD, ty_int_int, ty_int_bool, ty_int_str, ty_int_tuple, ty_int_list, ty_int_dict, ty_bool_int, ty_bool_bool, ty_bool_str, ty_bool_tuple, ty_bool_list, ty_bool_dict, ty_str_int, ty_str_bool, ty_str_str, ty_str_tuple, ty_str_list, ty_str_dict, ty_tuple_int, ty_tuple_bool, ty_tuple_str, ty_tuple_tuple, ty_tuple_list, ty_tuple_dict, ty_list_int, ty_list_bool, ty_list_str, ty_list_tuple, ty_list_list, ty_list_dict, ty_dict_int, ty_dict_bool, ty_dict_str, ty_dict_tuple, ty_dict_list, ty_dict_dict, Bool.not_true, Bool.not_false, Bool.or_false, Bool.false_or, Bool.or_true, Bool.true_or, List.set_cons_zero, List.set_cons_succ, wipeE, Nat.zero_add, Nat.reduceAdd, Nat.reduceSub, List.replicate_succ, List.replicate_zero, Option.bind_some, if_true, Int.toNat_natCast, ne0_1, ne0_2, ne0_3, ne0_4, true_and, and_true, Option.map_some, if_false, n_non, n_bl, n_int, n_str, n_tup, n_lst, Bool.false_eq_true, List.contains_cons, List.contains_nil, Nat.reduceBEq, BEq.rfl, decide_true, decide_false, andL, compW_K, compK_map, ite_KK, ite_PK, ite_KP, ite_PP, ite_some, ite_dint, ite_dbl, ck_opt, ck_opt0, fm_some, fm_if, fm_dec, ck_draw, ck_draw0, ix_tm, ix_lm, ix0, ix1, ix2, ix3, Int.toNat_sub, ← Int.natCast_add, Int.toNat_natCast_add_one, min_m, max_m, min_mc, max_mc, sum_m, all_m, any_m, zip_m, enm_m, frs_mapf, mc_pp, mc_draw, getI_nat, inb_nat, List.length_map, List.length_range, List.mem_range, List.length_zip, List.length_append, wfor_map, decide_eq_true_eq, reduceCtorEq, eqOk_intT, eqOk_blT, nc_one, nc_suc, nc_pre, nc_pre2, nc_sub, cast_sub1, cast_sub2, e_intN, e_blN, beq_iff_eq, Bool.and_true, Bool.true_and, Bool.and_false, Bool.false_and])
  have lx := cx.len
  refine ⟨⟨⟨⟨⟨⟨by omega, by omega⟩, by omega⟩, by omega⟩, by omega⟩, fun y hy => ⟨⟨by omega, by omega⟩, by omega⟩⟩, ?_⟩
  split
  · rename_i h
    refine q false ⟨(fun z => nomatch z), fun hb => ?_⟩
    obtain ⟨a, ha, h⟩ := List.any_eq_true.mp h
    have ha : a < xs.length - i := by simpa using ha
    have h : cat ys a < cat xs (i + a) - cat xs i := by simpa [cat] using h
    have := hb i (i + a) (by omega) (by omega)
    rw [show i + a - i = a by omega] at this
    omega
  · rename_i h
    refine hN _ ⟨⟨_, _, rfl⟩, fun a h' ha h1 h2 => ?_⟩
    by_cases e : a = i
    · subst e
      have h3 : ¬ (cat ys (h' - a) < cat xs (a + (h' - a)) - cat xs a) := fun z => h (List.any_eq_true.mpr ⟨h' - a, by simp; omega, by simpa [cat] using z⟩)
      rw [show a + (h' - a) = h' by omega] at h3
      omega
    · exact he a h' (by omega) h1 h2
/-! ## closed curves -/
/-- the closed curve, by the law's own going -/
def clo (xs : List Int) : Nat → List Int
  | 0 => []
  | 1 => [0]
  | n + 2 => clo xs (n + 1) ++ [mn (xs.getD (n + 1) 0 :: (List.range n).map fun a => (clo xs (n + 1)).getD (1 + a) 0 + (clo xs (n + 1)).getD (n - a) 0)]
def closed (xs : List Int) : List Int := clo xs xs.length
def cClosed : Con := fun ds Q Z => ∃ a, ds = [a] ∧ (∀ xs, a = cv xs → Curve xs → Q (cv (closed xs))) ∧ ((∀ xs, a = cv xs → ¬ Curve xs) → Z noCurve)
theorem clo_len (xs : List Int) : ∀ n, (clo xs n).length = n
  | 0 => rfl
  | 1 => rfl
  | n + 2 => by simp [clo, clo_len xs (n + 1)]
theorem clo_get {xs : List Int} {i : Nat} : ∀ {n m : Nat}, i < n → n ≤ m → cat (clo xs m) i = cat (clo xs n) i := by
  intro n m hi hm
  induction m with
  | zero => omega
  | succ m ih =>
    by_cases e : n = m + 1
    · subst e; rfl
    · rw [← ih (by omega)]
      cases m with
      | zero => omega
      | succ m =>
        show (clo xs (m + 1) ++ _).getD i 0 = _
        rw [List.getD_eq_getElem?_getD, List.getElem?_append_left (by rw [clo_len]; omega), ← List.getD_eq_getElem?_getD]
        rfl
theorem closed_0 {xs : List Int} (h : 0 < xs.length) : cat (closed xs) 0 = 0 := by
  unfold closed
  rw [clo_get (n := 1) (by omega) (by omega)]
  rfl
theorem closed_len (xs : List Int) : (closed xs).length = xs.length := clo_len xs _
theorem closed_at {xs : List Int} {h : Nat} (h1 : 1 ≤ h) (h2 : h < xs.length) : cat (closed xs) h = mn (cat xs h :: (List.range (h - 1)).map fun a => cat (closed xs) (1 + a) + cat (closed xs) (h - 1 - a)) := by
  obtain ⟨n, rfl⟩ : ∃ n, h = n + 1 := ⟨h - 1, by omega⟩
  unfold closed
  rw [clo_get (n := n + 2) (by omega) (by omega)]
  show (clo xs (n + 1) ++ [_]).getD (n + 1) 0 = _
  rw [List.getD_eq_getElem?_getD, List.getElem?_append_right (by rw [clo_len]; omega), clo_len, Nat.sub_self]
  show mn (cat xs (n + 1) :: _) = _
  congr 2
  refine List.map_congr_left fun a ha => ?_
  have ha : a < n := by simpa using ha
  rw [Nat.add_sub_cancel, clo_get (n := n + 1) (by omega) (by omega), clo_get (n := n + 1) (i := n - a) (by omega) (by omega)]
  rfl
/-- no more than the sum of two earlier ones -/
theorem closed_sub {xs : List Int} {a b : Nat} (h : a + b < xs.length) : cat (closed xs) (a + b) ≤ cat (closed xs) a + cat (closed xs) b := by
  by_cases ha : a = 0
  · subst ha; rw [closed_0 (by omega), Nat.zero_add]; omega
  by_cases hb : b = 0
  · subst hb; rw [closed_0 (by omega), Nat.add_zero]; omega
  rw [closed_at (h := a + b) (by omega) h]
  refine mn_le (List.mem_cons_of_mem _ (List.mem_map.mpr ⟨a - 1, by simp; omega, ?_⟩))
  rw [show 1 + (a - 1) = a by omega, show a + b - 1 - (a - 1) = b by omega]
theorem closed_le {xs : List Int} (p : ∀ i, i < xs.length → 0 ≤ cat xs i) {h : Nat} (hh : h < xs.length) : cat (closed xs) h ≤ cat xs h := by
  by_cases h0 : h = 0
  · subst h0; rw [closed_0 hh]; exact p 0 hh
  rw [closed_at (by omega) hh]
  exact mn_le (by simp)
/-- the greatest of all that are so -/
theorem closed_greatest {xs s : List Int} (s0 : cat s 0 ≤ 0) (sub : ∀ a b, a + b < xs.length → cat s (a + b) ≤ cat s a + cat s b) (le : ∀ i, 1 ≤ i → i < xs.length → cat s i ≤ cat xs i) : ∀ h, h < xs.length → cat s h ≤ cat (closed xs) h := by
  intro h
  induction h using Nat.strongRecOn with
  | _ h ih =>
    intro hh
    by_cases h0 : h = 0
    · subst h0; rw [closed_0 hh]; exact s0
    rw [closed_at (by omega) hh]
    rcases List.mem_cons.mp (mn_mem (xs := cat xs h :: (List.range (h - 1)).map fun a => cat (closed xs) (1 + a) + cat (closed xs) (h - 1 - a)) (by simp)) with e | e
    · rw [e]; exact le h (by omega) hh
    · obtain ⟨a, ha, e⟩ := List.mem_map.mp e
      rw [← e]
      have ha : a < h - 1 := by simpa using ha
      have h1 := ih (1 + a) (by omega) (by omega)
      have h2 := ih (h - 1 - a) (by omega) (by omega)
      have h3 := sub (1 + a) (h - 1 - a) (by omega)
      rw [show 1 + a + (h - 1 - a) = h by omega] at h3
      omega
end T71
end sec_L71n

section sec_L71b
set_option Elab.async false
set_option linter.all false
set_option maxRecDepth 100000
set_option maxHeartbeats 4000000
namespace T71
open PySem PySem.Spec Wk
theorem Curve.P {xs : List Int} (c : Curve xs) : P xs.length 1000000 xs := ⟨rfl, fun i hi => c.bd _ (cat_mem hi), fun i hi => up_iff.mp c.up i hi⟩
theorem closed_up {n : Nat} {B : Int} {xs : List Int} (p : P n B xs) : ∀ h, h + 1 < n → cat (closed xs) h ≤ cat (closed xs) (h + 1) := by
  intro h
  induction h using Nat.strongRecOn with
  | _ h ih =>
    intro hh
    have l := p.len
    rw [closed_at (h := h + 1) (by omega) (by omega)]
    rcases List.mem_cons.mp (mn_mem (xs := cat xs (h + 1) :: (List.range (h + 1 - 1)).map fun a => cat (closed xs) (1 + a) + cat (closed xs) (h + 1 - 1 - a)) (by simp)) with e | e
    · rw [e]
      have h1 := closed_le (xs := xs) (fun i hi => (p.bd i (by omega)).1) (h := h) (by omega)
      have h2 := p.up h hh
      omega
    · obtain ⟨a, ha, e⟩ := List.mem_map.mp e
      rw [← e]
      have ha : a < h := by simpa using ha
      have h1 := ih (h - 1 - a) (by omega) (by omega)
      rw [show h - 1 - a + 1 = h - a by omega] at h1
      have h3 := closed_sub (xs := xs) (a := 1 + a) (b := h - 1 - a) (by omega)
      rw [show 1 + a + (h - 1 - a) = h by omega] at h3
      rw [Nat.add_sub_cancel]
      omega
theorem P.closed {n : Nat} {B : Int} {xs : List Int} (p : P n B xs) (h1 : 1 ≤ n) : P n B (closed xs) where
  len := by rw [closed_len, p.len]
  bd := fun i hi => by
    have l := p.len
    have h0 := closed_0 (xs := xs) (by omega)
    have h2 := closed_le (xs := xs) (fun i hi => (p.bd i (by omega)).1) (h := i) (by omega)
    have h3 := up_le (xs := T71.closed xs) (fun i hi => closed_up p i (by rw [closed_len] at hi; omega)) (Nat.zero_le i) (by rw [closed_len]; omega)
    have := (p.bd i hi).2
    omega
  up := fun i hi => closed_up p i hi
theorem P.mono {n : Nat} {A B : Int} {xs : List Int} (p : P n A xs) (h : A ≤ B) : P n B xs := ⟨p.len, fun i hi => ⟨(p.bd i hi).1, Int.le_trans (p.bd i hi).2 h⟩, p.up⟩
/-- two closed curves with one bound -/
theorem closed_eq {n : Nat} {xs f : List Int} (lf : f.length = n) (lx : xs.length = n) (f0 : cat f 0 = 0) (h1 : Le n (closed xs) f) (h2 : ∀ i, 1 ≤ i → i < n → cat f i ≤ cat xs i) (h3 : conv f f = f) : f = closed xs := by
  refine cat_ext (by rw [closed_len, lf, lx]) fun i hi => Int.le_antisymm ?_ (h1 i (by omega))
  refine closed_greatest (by omega) (fun a b hab => ?_) (fun i h1 h2' => h2 i h1 (by omega)) i (by omega)
  have := conv_le (xs := f) (ys := f) (h := a + b) (a := a) (by omega) (by omega)
  rw [h3, show a + b - a = b by omega] at this
  exact this
theorem conv_le_self {n : Nat} {B : Int} {f : List Int} (p : P n B f) (f0 : cat f 0 = 0) : Le n (conv f f) f := conv_first p f0
theorem sum_le : ∀ (xs ys : List Int), xs.length = ys.length → (∀ i, i < xs.length → cat xs i ≤ cat ys i) → xs.sum ≤ ys.sum ∧ (xs.sum = ys.sum → xs = ys)
  | [], [], _, _ => by simp
  | x :: xs, y :: ys, l, h => by
    have h0 := h 0 (by simp)
    rw [cat_cons, cat_cons] at h0
    obtain ⟨h1, h2⟩ := sum_le xs ys (by simpa using l) fun i hi => by
      have := h (i + 1) (by simpa using hi)
      rwa [cat_succ, cat_succ] at this
    simp only [List.sum_cons]
    refine ⟨by omega, fun e => ?_⟩
    have e1 : x = y := by omega
    rw [e1, h2 (by omega)]
  | [], _ :: _, l, _ => by simp at l
  | _ :: _, [], l, _ => by simp at l
theorem sum_nn : ∀ (xs : List Int), (∀ x ∈ xs, 0 ≤ x) → 0 ≤ xs.sum
  | [], _ => by simp
  | x :: xs, h => by
    have := sum_nn xs fun y hy => h y (by simp [hy])
    have := h x (by simp)
    simp only [List.sum_cons]; omega
theorem conv_0 {xs ys : List Int} (h : 0 < xs.length) : cat (conv xs ys) 0 = cat xs 0 + cat ys 0 := by
  rw [conv_at h]
  rfl
variable (C : Nat → Con) (S : Nat → Except Err D → (D → Prop) → Prop) (k : Nat)
theorem n9 (h3 : C 3 = c3) (h4 : C 4 = cTwo conv) : ∀ ds Q Z, ds.length = 1 → Wk.frs ds = ds → cClosed ds Q Z → wps (GG C k S) s_closed_curve (entry N_closed_curve ds) (endPost Q Z) := by
  rintro ds Q Z hl hf ⟨a, rfl, q, z⟩
  simp only [Wk.frs, List.cons.injEq, and_true] at hf
  simp only [s_closed_curve, N_closed_curve, hf, h3, v_var, v_int, v_bl, v_non, v_str, v_glo, v_bin, v_neg, v_cmp, v_chain, v_and, v_or, v_not, v_ite, v_tup, v_lst, v_dnew, v_idx, v_sl, v_rev, v_call, v_blt, v_isi, v_said, v_lc, vs_nil, vs_cons, vO_none, vO_some, vC_none, vC_some, va_one, va_cons, vo_one, vo_cons, w_asg, w_mov, w_lcs, w_par, w_par3, w_app, w_set, w_aug, w_ret, w_retL, w_retA, w_movA, w_retv, w_retN, w_ife, w_whl, w_fr, w_frL, w_expr, w_rse, w_pas, w_brk, w_cnt, ws_nil, ws_cons, restr, frzL, augW, optV_some, getV_some, intV_int, blV_bl, ownV_lst, entry, List.map_cons, List.map_nil, List.length_cons, List.length_nil, endPost, List.getElem?_cons_zero, List.getElem?_cons_succ, List.cons_append, List.nil_append, Wk.fr, Wk.frs, b_add, b_sub, b_mul, b_div, b_mod, b_pow, b_addT, b_addL, b_mulL, b_mulT, q_lt, q_le, q_gt, q_ge, q_eq, q_ne, q_isN, q_isnN, l_tup, l_lst, l_scr, r_tup, r_lst, a_lenT, a_lenL, a_abs, a_int, a_tupT, a_tupL, a_lstT, a_lstL, a_min2, a_max2, s_seqT, s_seqL, rng_m, rng2_m, s_enm, s_zipT, s_zipL, t_name, t_tupT, t_tupL, t_nil, t_cons, u_bl, u_int, u_tup, u_lst, isiD, ty_int_int, ty_int_bool, ty_int_str, ty_int_tuple, ty_int_list, ty_int_dict, ty_bool_int, ty_bool_bool, ty_bool_str, ty_bool_tuple, ty_bool_list, ty_bool_dict, ty_str_int, ty_str_bool, ty_str_str, ty_str_tuple, ty_str_list, ty_str_dict, ty_tuple_int, ty_tuple_bool, ty_tuple_str, ty_tuple_tuple, ty_tuple_list, ty_tuple_dict, ty_list_int, ty_list_bool, ty_list_str, ty_list_tuple, ty_list_list, ty_list_dict, ty_dict_int, ty_dict_bool, ty_dict_str, ty_dict_tuple, ty_dict_list, ty_dict_dict, Bool.not_true, Bool.not_false, Bool.or_false, Bool.false_or, Bool.or_true, Bool.true_or, List.set_cons_zero, List.set_cons_succ, wipeE, Nat.zero_add, Nat.reduceAdd, Nat.reduceSub, List.replicate_succ, List.replicate_zero, Option.bind_some, if_true, Int.toNat_natCast, ne0_1, ne0_2, ne0_3, ne0_4, true_and, and_true, Option.map_some, if_false, n_non, n_bl, n_int, n_str, n_tup, n_lst, Bool.false_eq_true, List.contains_cons, List.contains_nil, Nat.reduceBEq, BEq.rfl, decide_true, decide_false, andL, compW_K, compK_map, ite_KK, ite_PK, ite_KP, ite_PP, ite_some, ite_dint, ite_dbl, ck_opt, ck_opt0, fm_some, fm_if, fm_dec, ck_draw, ck_draw0, ix_tm, ix_lm, ix0, ix1, ix2, ix3, Int.toNat_sub, ← Int.natCast_add, Int.toNat_natCast_add_one, min_m, max_m, min_mc, max_mc, sum_m, all_m, any_m, zip_m, enm_m, frs_mapf, mc_pp, mc_draw, getI_nat, inb_nat, List.length_map, List.length_range, List.mem_range, List.length_zip, List.length_append, wfor_map, decide_eq_true_eq, reduceCtorEq, eqOk_intT, eqOk_blT, nc_one, nc_suc, nc_pre, nc_pre2, nc_sub, cast_sub1, cast_sub2, e_intN, e_blN, beq_iff_eq, Bool.and_true, Bool.true_and, Bool.and_false, Bool.false_and]
  refine mc_iff ⟨a, a, rfl, fun ⟨xs, ys, e1, e2, cx, cy, l⟩ => ?_, fun no => z fun xs e c => no ⟨xs, xs, e, e, c, c, rfl⟩⟩
  subst e1
  clear e2 cy l ys z hf
  simp only [drop_cv, v_var, v_int, v_bl, v_non, v_str, v_glo, v_bin, v_neg, v_cmp, v_chain, v_and, v_or, v_not, v_ite, v_tup, v_lst, v_dnew, v_idx, v_sl, v_rev, v_call, v_blt, v_isi, v_said, v_lc, vs_nil, vs_cons, vO_none, vO_some, vC_none, vC_some, va_one, va_cons, vo_one, vo_cons, w_asg, w_mov, w_lcs, w_par, w_par3, w_app, w_set, w_aug, w_ret, w_retL, w_retA, w_movA, w_retv, w_retN, w_ife, w_whl, w_fr, w_frL, w_expr, w_rse, w_pas, w_brk, w_cnt, ws_nil, ws_cons, restr, frzL, augW, optV_some, getV_some, intV_int, blV_bl, ownV_lst, entry, List.map_cons, List.map_nil, List.length_cons, List.length_nil, endPost, List.getElem?_cons_zero, List.getElem?_cons_succ, List.cons_append, List.nil_append, Wk.fr, Wk.frs, b_add, b_sub, b_mul, b_div, b_mod, b_pow, b_addT, b_addL, b_mulL, b_mulT, q_lt, q_le, q_gt, q_ge, q_eq, q_ne, q_isN, q_isnN, l_tup, l_lst, l_scr, r_tup, r_lst, a_lenT, a_lenL, a_abs, a_int, a_tupT, a_tupL, a_lstT, a_lstL, a_min2, a_max2, s_seqT, s_seqL, rng_m, rng2_m, s_enm, s_zipT, s_zipL, t_name, t_tupT, t_tupL, t_nil, t_cons, u_bl, u_int, u_tup, u_lst, isiD, ty_int_int, ty_int_bool, ty_int_str, ty_int_tuple, ty_int_list, ty_int_dict, ty_bool_int, ty_bool_bool, ty_bool_str, ty_bool_tuple, ty_bool_list, ty_bool_dict, ty_str_int, ty_str_bool, ty_str_str, ty_str_tuple, ty_str_list, ty_str_dict, ty_tuple_int, ty_tuple_bool, ty_tuple_str, ty_tuple_tuple, ty_tuple_list, ty_tuple_dict, ty_list_int, ty_list_bool, ty_list_str, ty_list_tuple, ty_list_list, ty_list_dict, ty_dict_int, ty_dict_bool, ty_dict_str, ty_dict_tuple, ty_dict_list, ty_dict_dict, Bool.not_true, Bool.not_false, Bool.or_false, Bool.false_or, Bool.or_true, Bool.true_or, List.set_cons_zero, List.set_cons_succ, wipeE, Nat.zero_add, Nat.reduceAdd, Nat.reduceSub, List.replicate_succ, List.replicate_zero, Option.bind_some, if_true, Int.toNat_natCast, ne0_1, ne0_2, ne0_3, ne0_4, true_and, and_true, Option.map_some, if_false, n_non, n_bl, n_int, n_str, n_tup, n_lst, Bool.false_eq_true, List.contains_cons, List.contains_nil, Nat.reduceBEq, BEq.rfl, decide_true, decide_false, andL, compW_K, compK_map, ite_KK, ite_PK, ite_KP, ite_PP, ite_some, ite_dint, ite_dbl, ck_opt, ck_opt0, fm_some, fm_if, fm_dec, ck_draw, ck_draw0, ix_tm, ix_lm, ix0, ix1, ix2, ix3, Int.toNat_sub, ← Int.natCast_add, Int.toNat_natCast_add_one, min_m, max_m, min_mc, max_mc, sum_m, all_m, any_m, zip_m, enm_m, frs_mapf, mc_pp, mc_draw, getI_nat, inb_nat, List.length_map, List.length_range, List.mem_range, List.length_zip, List.length_append, wfor_map, decide_eq_true_eq, reduceCtorEq, eqOk_intT, eqOk_blT, nc_one, nc_suc, nc_pre, nc_pre2, nc_sub, cast_sub1, cast_sub2, e_intN, e_blN, beq_iff_eq, Bool.and_true, Bool.true_and, Bool.and_false, Bool.false_and]
  have px := cx.P
  have n1 : 1 ≤ xs.length := cx.pos
  have n60 := cx.len
  have pf := px.first n1 (by omega)
  refine ⟨⟨by rw [sizeLine_eq]; simp; omega, by rw [Wk.cl, Wk.cls, cls_int]; rfl⟩, ?_⟩
  refine whl_I (fun m e => ∃ f, e = [some (cv xs), some (cv f)] ∧ m = f.sum.toNat ∧ P xs.length 1000000 f ∧ cat f 0 = 0 ∧ Le xs.length (closed xs) f ∧ ∀ i, 1 ≤ i → i < xs.length → cat f i ≤ cat xs i) _ ⟨0 :: xs.drop 1, rfl, rfl, pf, rfl, fun i hi => ?_, fun i h1 hi => ?_⟩ ?_
  · cases i with
    | zero => rw [closed_0 (by omega), cat_cons]; omega
    | succ i => rw [cat_succ, cat_drop]; exact closed_le (fun i hi => (px.bd i hi).1) hi
  · cases i with
    | zero => omega
    | succ i => rw [cat_succ, cat_drop]; omega
  · rintro m e ⟨f, rfl, rfl, p, f0, h1, h2⟩
    have cf := p.curve n1 n60 (Int.le_refl _)
    have pc : P xs.length 1000000 (conv f f) := by
      have pp := p.conv p
      refine ⟨pp.len, fun i hi => ⟨(pp.bd i hi).1, Int.le_trans (conv_le_self p f0 i hi) (p.bd i hi).2⟩, pp.up⟩
    simp only [h4, frs_int, v_var, v_int, v_bl, v_non, v_str, v_glo, v_bin, v_neg, v_cmp, v_chain, v_and, v_or, v_not, v_ite, v_tup, v_lst, v_dnew, v_idx, v_sl, v_rev, v_call, v_blt, v_isi, v_said, v_lc, vs_nil, vs_cons, vO_none, vO_some, vC_none, vC_some, va_one, va_cons, vo_one, vo_cons, w_asg, w_mov, w_lcs, w_par, w_par3, w_app, w_set, w_aug, w_ret, w_retL, w_retA, w_movA, w_retv, w_retN, w_ife, w_whl, w_fr, w_frL, w_expr, w_rse, w_pas, w_brk, w_cnt, ws_nil, ws_cons, restr, frzL, augW, optV_some, getV_some, intV_int, blV_bl, ownV_lst, entry, List.map_cons, List.map_nil, List.length_cons, List.length_nil, endPost, List.getElem?_cons_zero, List.getElem?_cons_succ, List.cons_append, List.nil_append, Wk.fr, Wk.frs, b_add, b_sub, b_mul, b_div, b_mod, b_pow, b_addT, b_addL, b_mulL, b_mulT, q_lt, q_le, q_gt, q_ge, q_eq, q_ne, q_isN, q_isnN, l_tup, l_lst, l_scr, r_tup, r_lst, a_lenT, a_lenL, a_abs, a_int, a_tupT, a_tupL, a_lstT, a_lstL, a_min2, a_max2, s_seqT, s_seqL, rng_m, rng2_m, s_enm, s_zipT, s_zipL, t_name, t_tupT, t_tupL, t_nil, t_cons, u_bl, u_int, u_tup, u_lst, isiD, ty_int_int, ty_int_bool, ty_int_str, ty_int_tuple, ty_int_list, ty_int_dict, ty_bool_int, ty_bool_bool, ty_bool_str, ty_bool_tuple, ty_bool_list, ty_bool_dict, ty_str_int, ty_str_bool, ty_str_str, ty_str_tuple, ty_str_list, ty_str_dict, ty_tuple_int, ty_tuple_bool, ty_tuple_str, ty_tuple_tuple, ty_tuple_list, ty_tuple_dict, ty_list_int, ty_list_bool, ty_list_str, ty_list_tuple, ty_list_list, ty_list_dict, ty_dict_int, ty_dict_bool, ty_dict_str, ty_dict_tuple, ty_dict_list, ty_dict_dict, Bool.not_true, Bool.not_false, Bool.or_false, Bool.false_or, Bool.or_true, Bool.true_or, List.set_cons_zero, List.set_cons_succ, wipeE, Nat.zero_add, Nat.reduceAdd, Nat.reduceSub, List.replicate_succ, List.replicate_zero, Option.bind_some, if_true, Int.toNat_natCast, ne0_1, ne0_2, ne0_3, ne0_4, true_and, and_true, Option.map_some, if_false, n_non, n_bl, n_int, n_str, n_tup, n_lst, Bool.false_eq_true, List.contains_cons, List.contains_nil, Nat.reduceBEq, BEq.rfl, decide_true, decide_false, andL, compW_K, compK_map, ite_KK, ite_PK, ite_KP, ite_PP, ite_some, ite_dint, ite_dbl, ck_opt, ck_opt0, fm_some, fm_if, fm_dec, ck_draw, ck_draw0, ix_tm, ix_lm, ix0, ix1, ix2, ix3, Int.toNat_sub, ← Int.natCast_add, Int.toNat_natCast_add_one, min_m, max_m, min_mc, max_mc, sum_m, all_m, any_m, zip_m, enm_m, frs_mapf, mc_pp, mc_draw, getI_nat, inb_nat, List.length_map, List.length_range, List.mem_range, List.length_zip, List.length_append, wfor_map, decide_eq_true_eq, reduceCtorEq, eqOk_intT, eqOk_blT, nc_one, nc_suc, nc_pre, nc_pre2, nc_sub, cast_sub1, cast_sub2, e_intN, e_blN, beq_iff_eq, Bool.and_true, Bool.true_and, Bool.and_false, Bool.false_and]
    refine two_ok cf cf rfl ?_
    simp only [frs_int, eqD_cvs, eqOk_cv, v_var, v_int, v_bl, v_non, v_str, v_glo, v_bin, v_neg, v_cmp, v_chain, v_and, v_or, v_not, v_ite, v_tup, v_lst, v_dnew, v_idx, v_sl, v_rev, v_call, v_blt, v_isi, v_said, v_lc, vs_nil, vs_cons, vO_none, vO_some, vC_none, vC_some, va_one, va_cons, vo_one, vo_cons, w_asg, w_mov, w_lcs, w_par, w_par3, w_app, w_set, w_aug, w_ret, w_retL, w_retA, w_movA, w_retv, w_retN, w_ife, w_whl, w_fr, w_frL, w_expr, w_rse, w_pas, w_brk, w_cnt, ws_nil, ws_cons, restr, frzL, augW, optV_some, getV_some, intV_int, blV_bl, ownV_lst, entry, List.map_cons, List.map_nil, List.length_cons, List.length_nil, endPost, List.getElem?_cons_zero, List.getElem?_cons_succ, List.cons_append, List.nil_append, Wk.fr, Wk.frs, b_add, b_sub, b_mul, b_div, b_mod, b_pow, b_addT, b_addL, b_mulL, b_mulT, q_lt, q_le, q_gt, q_ge, q_eq, q_ne, q_isN, q_isnN, l_tup, l_lst, l_scr, r_tup, r_lst, a_lenT, a_lenL, a_abs, a_int, a_tupT, a_tupL, a_lstT, a_lstL, a_min2, a_max2, s_seqT, s_seqL, rng_m, rng2_m, s_enm, s_zipT, s_zipL, t_name, t_tupT, t_tupL, t_nil, t_cons, u_bl, u_int, u_tup, u_lst, isiD, ty_int_int, ty_int_bool, ty_int_str, ty_int_tuple, ty_int_list, ty_int_dict, ty_bool_int, ty_bool_bool, ty_bool_str, ty_bool_tuple, ty_bool_list, ty_bool_dict, ty_str_int, ty_str_bool, ty_str_str, ty_str_tuple, ty_str_list, ty_str_dict, ty_tuple_int, ty_tuple_bool, ty_tuple_str, ty_tuple_tuple, ty_tuple_list, ty_tuple_dict, ty_list_int, ty_list_bool, ty_list_str, ty_list_tuple, ty_list_list, ty_list_dict, ty_dict_int, ty_dict_bool, ty_dict_str, ty_dict_tuple, ty_dict_list, ty_dict_dict, Bool.not_true, Bool.not_false, Bool.or_false, Bool.false_or, Bool.or_true, Bool.true_or, List.set_cons_zero, List.set_cons_succ, wipeE, Nat.zero_add, Nat.reduceAdd, Nat.reduceSub, List.replicate_succ, List.replicate_zero, Option.bind_some, if_true, Int.toNat_natCast, ne0_1, ne0_2, ne0_3, ne0_4, true_and, and_true, Option.map_some, if_false, n_non, n_bl, n_int, n_str, n_tup, n_lst, Bool.false_eq_true, List.contains_cons, List.contains_nil, Nat.reduceBEq, BEq.rfl, decide_true, decide_false, andL, compW_K, compK_map, ite_KK, ite_PK, ite_KP, ite_PP, ite_some, ite_dint, ite_dbl, ck_opt, ck_opt0, fm_some, fm_if, fm_dec, ck_draw, ck_draw0, ix_tm, ix_lm, ix0, ix1, ix2, ix3, Int.toNat_sub, ← Int.natCast_add, Int.toNat_natCast_add_one, min_m, max_m, min_mc, max_mc, sum_m, all_m, any_m, zip_m, enm_m, frs_mapf, mc_pp, mc_draw, getI_nat, inb_nat, List.length_map, List.length_range, List.mem_range, List.length_zip, List.length_append, wfor_map, decide_eq_true_eq, reduceCtorEq, eqOk_intT, eqOk_blT, nc_one, nc_suc, nc_pre, nc_pre2, nc_sub, cast_sub1, cast_sub2, e_intN, e_blN, beq_iff_eq, Bool.and_true, Bool.true_and, Bool.and_false, Bool.false_and]
    by_cases e : conv f f = f
    · simp only [e, decide_true, Bool.not_true, Bool.false_eq_true, if_false]
      have := q xs rfl cx
      rw [← closed_eq p.len rfl f0 h1 h2 e] at this
      exact this
    · simp only [e, decide_false, Bool.not_false, if_true]
      refine two_ok cf cf rfl ⟨cl_cv _, _, ?_, conv f f, ⟨⟨⟨⟨⟨rfl, rfl⟩, pc⟩, by rw [conv_0 (by rw [p.len]; omega), f0]; rfl⟩, fun i hi => ?_⟩, fun i i1 hi => ?_⟩⟩
      · have hs := sum_le (conv f f) f (conv_len _ _) fun i hi => conv_le_self p f0 i (by rw [conv_len, p.len] at hi; exact hi)
        have h3 := sum_nn (conv f f) fun x hx => (pc.mem x hx).1
        have h4 : (conv f f).sum ≠ f.sum := fun z => e (hs.2 z)
        have := hs.1
        omega
      · obtain ⟨a, ha, e⟩ := conv_ex (xs := f) (ys := f) (h := i) (by rw [p.len]; exact hi)
        rw [e]
        have g1 := h1 a (by omega)
        have g2 := h1 (i - a) (by omega)
        have g3 := closed_sub (xs := xs) (a := a) (b := i - a) (by omega)
        rw [show a + (i - a) = i by omega] at g3
        omega
      · exact Int.le_trans (conv_le_self p f0 i hi) (h2 i i1 hi)
/-- a curve that is closed -/
def Cl (ys : List Int) : Prop := cat ys 0 = 0 ∧ closed ys = ys
def cShaped : Con := fun ds Q Z => ∃ a b, ds = [a, b] ∧ (∀ xs ys, a = cv xs → b = cv ys → Curve xs → Curve ys → xs.length = ys.length → (Cl ys → Q (cv (conv xs ys))) ∧ (¬ Cl ys → Z noCurve)) ∧ (¬ OkPair a b → Z noCurve)
theorem clos_ok {xs : List Int} (c : Curve xs) {Q : D → Prop} {Z : Err → Prop} (q : Q (cv (closed xs))) : mc cClosed [cv xs] Q Z := mc_iff ⟨_, rfl, fun xs' e _ => by rw [← cv_inj e]; exact q, fun h => absurd c (h xs rfl)⟩
theorem clos_no {a : D} (h : ∀ xs, a = cv xs → ¬ Curve xs) {Q : D → Prop} {Z : Err → Prop} (z : Z noCurve) : mc cClosed [a] Q Z := mc_iff ⟨_, rfl, fun xs' e c => absurd c (h _ e), fun h => z⟩
theorem cv0 {xs : List Int} (h : 0 < xs.length) {Q : D → Prop} : idxW (cv xs) (.int 0) Q = Q (.int (cat xs 0)) := by
  have := ix_tm (Q := Q) D.int xs ((0 : Nat) : Int)
  rw [inb_nat, getI_nat] at this
  exact this.trans (by simp [h, cat])
theorem n10 (h3 : C 3 = c3) (h4 : C 4 = cTwo conv) (h9 : C 9 = cClosed) : ∀ ds Q Z, ds.length = 2 → Wk.frs ds = ds → cShaped ds Q Z → wps (GG C k S) s_shaped (entry N_shaped ds) (endPost Q Z) := by
  rintro ds Q Z hl hf ⟨a, b, rfl, q, z⟩
  simp only [Wk.frs, List.cons.injEq, and_true] at hf
  simp only [s_shaped, N_shaped, hf.1, hf.2, h3, h4, h9, v_var, v_int, v_bl, v_non, v_str, v_glo, v_bin, v_neg, v_cmp, v_chain, v_and, v_or, v_not, v_ite, v_tup, v_lst, v_dnew, v_idx, v_sl, v_rev, v_call, v_blt, v_isi, v_said, v_lc, vs_nil, vs_cons, vO_none, vO_some, vC_none, vC_some, va_one, va_cons, vo_one, vo_cons, w_asg, w_mov, w_lcs, w_par, w_par3, w_app, w_set, w_aug, w_ret, w_retL, w_retA, w_movA, w_retv, w_retN, w_ife, w_whl, w_fr, w_frL, w_expr, w_rse, w_pas, w_brk, w_cnt, ws_nil, ws_cons, restr, frzL, augW, optV_some, getV_some, intV_int, blV_bl, ownV_lst, entry, List.map_cons, List.map_nil, List.length_cons, List.length_nil, endPost, List.getElem?_cons_zero, List.getElem?_cons_succ, List.cons_append, List.nil_append, Wk.fr, Wk.frs, b_add, b_sub, b_mul, b_div, b_mod, b_pow, b_addT, b_addL, b_mulL, b_mulT, q_lt, q_le, q_gt, q_ge, q_eq, q_ne, q_isN, q_isnN, l_tup, l_lst, l_scr, r_tup, r_lst, a_lenT, a_lenL, a_abs, a_int, a_tupT, a_tupL, a_lstT, a_lstL, a_min2, a_max2, s_seqT, s_seqL, rng_m, rng2_m, s_enm, s_zipT, s_zipL, t_name, t_tupT, t_tupL, t_nil, t_cons, u_bl, u_int, u_tup, u_lst, isiD, ty_int_int, ty_int_bool, ty_int_str, ty_int_tuple, ty_int_list, ty_int_dict, ty_bool_int, ty_bool_bool, ty_bool_str, ty_bool_tuple, ty_bool_list, ty_bool_dict, ty_str_int, ty_str_bool, ty_str_str, ty_str_tuple, ty_str_list, ty_str_dict, ty_tuple_int, ty_tuple_bool, ty_tuple_str, ty_tuple_tuple, ty_tuple_list, ty_tuple_dict, ty_list_int, ty_list_bool, ty_list_str, ty_list_tuple, ty_list_list, ty_list_dict, ty_dict_int, ty_dict_bool, ty_dict_str, ty_dict_tuple, ty_dict_list, ty_dict_dict, Bool.not_true, Bool.not_false, Bool.or_false, Bool.false_or, Bool.or_true, Bool.true_or, List.set_cons_zero, List.set_cons_succ, wipeE, Nat.zero_add, Nat.reduceAdd, Nat.reduceSub, List.replicate_succ, List.replicate_zero, Option.bind_some, if_true, Int.toNat_natCast, ne0_1, ne0_2, ne0_3, ne0_4, true_and, and_true, Option.map_some, if_false, n_non, n_bl, n_int, n_str, n_tup, n_lst, Bool.false_eq_true, List.contains_cons, List.contains_nil, Nat.reduceBEq, BEq.rfl, decide_true, decide_false]
  refine mc_iff ⟨a, b, rfl, fun ⟨xs, ys, e1, e2, cx, cy, l⟩ => ?_, fun no => z no⟩
  subst e1 e2
  have q := q xs ys rfl rfl cx cy l
  simp only [cv0 cy.pos, v_var, v_int, v_bl, v_non, v_str, v_glo, v_bin, v_neg, v_cmp, v_chain, v_and, v_or, v_not, v_ite, v_tup, v_lst, v_dnew, v_idx, v_sl, v_rev, v_call, v_blt, v_isi, v_said, v_lc, vs_nil, vs_cons, vO_none, vO_some, vC_none, vC_some, va_one, va_cons, vo_one, vo_cons, w_asg, w_mov, w_lcs, w_par, w_par3, w_app, w_set, w_aug, w_ret, w_retL, w_retA, w_movA, w_retv, w_retN, w_ife, w_whl, w_fr, w_frL, w_expr, w_rse, w_pas, w_brk, w_cnt, ws_nil, ws_cons, restr, frzL, augW, optV_some, getV_some, intV_int, blV_bl, ownV_lst, entry, List.map_cons, List.map_nil, List.length_cons, List.length_nil, endPost, List.getElem?_cons_zero, List.getElem?_cons_succ, List.cons_append, List.nil_append, Wk.fr, Wk.frs, b_add, b_sub, b_mul, b_div, b_mod, b_pow, b_addT, b_addL, b_mulL, b_mulT, q_lt, q_le, q_gt, q_ge, q_eq, q_ne, q_isN, q_isnN, l_tup, l_lst, l_scr, r_tup, r_lst, a_lenT, a_lenL, a_abs, a_int, a_tupT, a_tupL, a_lstT, a_lstL, a_min2, a_max2, s_seqT, s_seqL, rng_m, rng2_m, s_enm, s_zipT, s_zipL, t_name, t_tupT, t_tupL, t_nil, t_cons, u_bl, u_int, u_tup, u_lst, isiD, ty_int_int, ty_int_bool, ty_int_str, ty_int_tuple, ty_int_list, ty_int_dict, ty_bool_int, ty_bool_bool, ty_bool_str, ty_bool_tuple, ty_bool_list, ty_bool_dict, ty_str_int, ty_str_bool, ty_str_str, ty_str_tuple, ty_str_list, ty_str_dict, ty_tuple_int, ty_tuple_bool, ty_tuple_str, ty_tuple_tuple, ty_tuple_list, ty_tuple_dict, ty_list_int, ty_list_bool, ty_list_str, ty_list_tuple, ty_list_list, ty_list_dict, ty_dict_int, ty_dict_bool, ty_dict_str, ty_dict_tuple, ty_dict_list, ty_dict_dict, Bool.not_true, Bool.not_false, Bool.or_false, Bool.false_or, Bool.or_true, Bool.true_or, List.set_cons_zero, List.set_cons_succ, wipeE, Nat.zero_add, Nat.reduceAdd, Nat.reduceSub, List.replicate_succ, List.replicate_zero, Option.bind_some, if_true, Int.toNat_natCast, ne0_1, ne0_2, ne0_3, ne0_4, true_and, and_true, Option.map_some, if_false, n_non, n_bl, n_int, n_str, n_tup, n_lst, Bool.false_eq_true, List.contains_cons, List.contains_nil, Nat.reduceBEq, BEq.rfl, decide_true, decide_false, andL, compW_K, compK_map, ite_KK, ite_PK, ite_KP, ite_PP, ite_some, ite_dint, ite_dbl, ck_opt, ck_opt0, fm_some, fm_if, fm_dec, ck_draw, ck_draw0, ix_tm, ix_lm, ix0, ix1, ix2, ix3, Int.toNat_sub, ← Int.natCast_add, Int.toNat_natCast_add_one, min_m, max_m, min_mc, max_mc, sum_m, all_m, any_m, zip_m, enm_m, frs_mapf, mc_pp, mc_draw, getI_nat, inb_nat, List.length_map, List.length_range, List.mem_range, List.length_zip, List.length_append, wfor_map, decide_eq_true_eq, reduceCtorEq, eqOk_intT, eqOk_blT, nc_one, nc_suc, nc_pre, nc_pre2, nc_sub, cast_sub1, cast_sub2, e_intN, e_blN, beq_iff_eq, Bool.and_true, Bool.true_and, Bool.and_false, Bool.false_and]
  by_cases h0 : cat ys 0 = 0
  · simp only [h0, decide_true, Bool.not_true, v_var, v_int, v_bl, v_non, v_str, v_glo, v_bin, v_neg, v_cmp, v_chain, v_and, v_or, v_not, v_ite, v_tup, v_lst, v_dnew, v_idx, v_sl, v_rev, v_call, v_blt, v_isi, v_said, v_lc, vs_nil, vs_cons, vO_none, vO_some, vC_none, vC_some, va_one, va_cons, vo_one, vo_cons, w_asg, w_mov, w_lcs, w_par, w_par3, w_app, w_set, w_aug, w_ret, w_retL, w_retA, w_movA, w_retv, w_retN, w_ife, w_whl, w_fr, w_frL, w_expr, w_rse, w_pas, w_brk, w_cnt, ws_nil, ws_cons, restr, frzL, augW, optV_some, getV_some, intV_int, blV_bl, ownV_lst, entry, List.map_cons, List.map_nil, List.length_cons, List.length_nil, endPost, List.getElem?_cons_zero, List.getElem?_cons_succ, List.cons_append, List.nil_append, Wk.fr, Wk.frs, b_add, b_sub, b_mul, b_div, b_mod, b_pow, b_addT, b_addL, b_mulL, b_mulT, q_lt, q_le, q_gt, q_ge, q_eq, q_ne, q_isN, q_isnN, l_tup, l_lst, l_scr, r_tup, r_lst, a_lenT, a_lenL, a_abs, a_int, a_tupT, a_tupL, a_lstT, a_lstL, a_min2, a_max2, s_seqT, s_seqL, rng_m, rng2_m, s_enm, s_zipT, s_zipL, t_name, t_tupT, t_tupL, t_nil, t_cons, u_bl, u_int, u_tup, u_lst, isiD, ty_int_int, ty_int_bool, ty_int_str, ty_int_tuple, ty_int_list, ty_int_dict, ty_bool_int, ty_bool_bool, ty_bool_str, ty_bool_tuple, ty_bool_list, ty_bool_dict, ty_str_int, ty_str_bool, ty_str_str, ty_str_tuple, ty_str_list, ty_str_dict, ty_tuple_int, ty_tuple_bool, ty_tuple_str, ty_tuple_tuple, ty_tuple_list, ty_tuple_dict, ty_list_int, ty_list_bool, ty_list_str, ty_list_tuple, ty_list_list, ty_list_dict, ty_dict_int, ty_dict_bool, ty_dict_str, ty_dict_tuple, ty_dict_list, ty_dict_dict, Bool.not_true, Bool.not_false, Bool.or_false, Bool.false_or, Bool.or_true, Bool.true_or, List.set_cons_zero, List.set_cons_succ, wipeE, Nat.zero_add, Nat.reduceAdd, Nat.reduceSub, List.replicate_succ, List.replicate_zero, Option.bind_some, if_true, Int.toNat_natCast, ne0_1, ne0_2, ne0_3, ne0_4, true_and, and_true, Option.map_some, if_false, n_non, n_bl, n_int, n_str, n_tup, n_lst, Bool.false_eq_true, List.contains_cons, List.contains_nil, Nat.reduceBEq, BEq.rfl, decide_true, decide_false, andL, compW_K, compK_map, ite_KK, ite_PK, ite_KP, ite_PP, ite_some, ite_dint, ite_dbl, ck_opt, ck_opt0, fm_some, fm_if, fm_dec, ck_draw, ck_draw0, ix_tm, ix_lm, ix0, ix1, ix2, ix3, Int.toNat_sub, ← Int.natCast_add, Int.toNat_natCast_add_one, min_m, max_m, min_mc, max_mc, sum_m, all_m, any_m, zip_m, enm_m, frs_mapf, mc_pp, mc_draw, getI_nat, inb_nat, List.length_map, List.length_range, List.mem_range, List.length_zip, List.length_append, wfor_map, decide_eq_true_eq, reduceCtorEq, eqOk_intT, eqOk_blT, nc_one, nc_suc, nc_pre, nc_pre2, nc_sub, cast_sub1, cast_sub2, e_intN, e_blN, beq_iff_eq, Bool.and_true, Bool.true_and, Bool.and_false, Bool.false_and]
    refine clos_ok cy ?_
    simp only [eqD_cvs, eqOk_cv, frs_int, v_var, v_int, v_bl, v_non, v_str, v_glo, v_bin, v_neg, v_cmp, v_chain, v_and, v_or, v_not, v_ite, v_tup, v_lst, v_dnew, v_idx, v_sl, v_rev, v_call, v_blt, v_isi, v_said, v_lc, vs_nil, vs_cons, vO_none, vO_some, vC_none, vC_some, va_one, va_cons, vo_one, vo_cons, w_asg, w_mov, w_lcs, w_par, w_par3, w_app, w_set, w_aug, w_ret, w_retL, w_retA, w_movA, w_retv, w_retN, w_ife, w_whl, w_fr, w_frL, w_expr, w_rse, w_pas, w_brk, w_cnt, ws_nil, ws_cons, restr, frzL, augW, optV_some, getV_some, intV_int, blV_bl, ownV_lst, entry, List.map_cons, List.map_nil, List.length_cons, List.length_nil, endPost, List.getElem?_cons_zero, List.getElem?_cons_succ, List.cons_append, List.nil_append, Wk.fr, Wk.frs, b_add, b_sub, b_mul, b_div, b_mod, b_pow, b_addT, b_addL, b_mulL, b_mulT, q_lt, q_le, q_gt, q_ge, q_eq, q_ne, q_isN, q_isnN, l_tup, l_lst, l_scr, r_tup, r_lst, a_lenT, a_lenL, a_abs, a_int, a_tupT, a_tupL, a_lstT, a_lstL, a_min2, a_max2, s_seqT, s_seqL, rng_m, rng2_m, s_enm, s_zipT, s_zipL, t_name, t_tupT, t_tupL, t_nil, t_cons, u_bl, u_int, u_tup, u_lst, isiD, ty_int_int, ty_int_bool, ty_int_str, ty_int_tuple, ty_int_list, ty_int_dict, ty_bool_int, ty_bool_bool, ty_bool_str, ty_bool_tuple, ty_bool_list, ty_bool_dict, ty_str_int, ty_str_bool, ty_str_str, ty_str_tuple, ty_str_list, ty_str_dict, ty_tuple_int, ty_tuple_bool, ty_tuple_str, ty_tuple_tuple, ty_tuple_list, ty_tuple_dict, ty_list_int, ty_list_bool, ty_list_str, ty_list_tuple, ty_list_list, ty_list_dict, ty_dict_int, ty_dict_bool, ty_dict_str, ty_dict_tuple, ty_dict_list, ty_dict_dict, Bool.not_true, Bool.not_false, Bool.or_false, Bool.false_or, Bool.or_true, Bool.true_or, List.set_cons_zero, List.set_cons_succ, wipeE, Nat.zero_add, Nat.reduceAdd, Nat.reduceSub, List.replicate_succ, List.replicate_zero, Option.bind_some, if_true, Int.toNat_natCast, ne0_1, ne0_2, ne0_3, ne0_4, true_and, and_true, Option.map_some, if_false, n_non, n_bl, n_int, n_str, n_tup, n_lst, Bool.false_eq_true, List.contains_cons, List.contains_nil, Nat.reduceBEq, BEq.rfl, decide_true, decide_false, andL, compW_K, compK_map, ite_KK, ite_PK, ite_KP, ite_PP, ite_some, ite_dint, ite_dbl, ck_opt, ck_opt0, fm_some, fm_if, fm_dec, ck_draw, ck_draw0, ix_tm, ix_lm, ix0, ix1, ix2, ix3, Int.toNat_sub, ← Int.natCast_add, Int.toNat_natCast_add_one, min_m, max_m, min_mc, max_mc, sum_m, all_m, any_m, zip_m, enm_m, frs_mapf, mc_pp, mc_draw, getI_nat, inb_nat, List.length_map, List.length_range, List.mem_range, List.length_zip, List.length_append, wfor_map, decide_eq_true_eq, reduceCtorEq, eqOk_intT, eqOk_blT, nc_one, nc_suc, nc_pre, nc_pre2, nc_sub, cast_sub1, cast_sub2, e_intN, e_blN, beq_iff_eq, Bool.and_true, Bool.true_and, Bool.and_false, Bool.false_and]
    by_cases h1 : closed ys = ys
    · simp only [h1, v_var, v_int, v_bl, v_non, v_str, v_glo, v_bin, v_neg, v_cmp, v_chain, v_and, v_or, v_not, v_ite, v_tup, v_lst, v_dnew, v_idx, v_sl, v_rev, v_call, v_blt, v_isi, v_said, v_lc, vs_nil, vs_cons, vO_none, vO_some, vC_none, vC_some, va_one, va_cons, vo_one, vo_cons, w_asg, w_mov, w_lcs, w_par, w_par3, w_app, w_set, w_aug, w_ret, w_retL, w_retA, w_movA, w_retv, w_retN, w_ife, w_whl, w_fr, w_frL, w_expr, w_rse, w_pas, w_brk, w_cnt, ws_nil, ws_cons, restr, frzL, augW, optV_some, getV_some, intV_int, blV_bl, ownV_lst, entry, List.map_cons, List.map_nil, List.length_cons, List.length_nil, endPost, List.getElem?_cons_zero, List.getElem?_cons_succ, List.cons_append, List.nil_append, Wk.fr, Wk.frs, b_add, b_sub, b_mul, b_div, b_mod, b_pow, b_addT, b_addL, b_mulL, b_mulT, q_lt, q_le, q_gt, q_ge, q_eq, q_ne, q_isN, q_isnN, l_tup, l_lst, l_scr, r_tup, r_lst, a_lenT, a_lenL, a_abs, a_int, a_tupT, a_tupL, a_lstT, a_lstL, a_min2, a_max2, s_seqT, s_seqL, rng_m, rng2_m, s_enm, s_zipT, s_zipL, t_name, t_tupT, t_tupL, t_nil, t_cons, u_bl, u_int, u_tup, u_lst, isiD, ty_int_int, ty_int_bool, ty_int_str, ty_int_tuple, ty_int_list, ty_int_dict, ty_bool_int, ty_bool_bool, ty_bool_str, ty_bool_tuple, ty_bool_list, ty_bool_dict, ty_str_int, ty_str_bool, ty_str_str, ty_str_tuple, ty_str_list, ty_str_dict, ty_tuple_int, ty_tuple_bool, ty_tuple_str, ty_tuple_tuple, ty_tuple_list, ty_tuple_dict, ty_list_int, ty_list_bool, ty_list_str, ty_list_tuple, ty_list_list, ty_list_dict, ty_dict_int, ty_dict_bool, ty_dict_str, ty_dict_tuple, ty_dict_list, ty_dict_dict, Bool.not_true, Bool.not_false, Bool.or_false, Bool.false_or, Bool.or_true, Bool.true_or, List.set_cons_zero, List.set_cons_succ, wipeE, Nat.zero_add, Nat.reduceAdd, Nat.reduceSub, List.replicate_succ, List.replicate_zero, Option.bind_some, if_true, Int.toNat_natCast, ne0_1, ne0_2, ne0_3, ne0_4, true_and, and_true, Option.map_some, if_false, n_non, n_bl, n_int, n_str, n_tup, n_lst, Bool.false_eq_true, List.contains_cons, List.contains_nil, Nat.reduceBEq, BEq.rfl, decide_true, decide_false, andL, compW_K, compK_map, ite_KK, ite_PK, ite_KP, ite_PP, ite_some, ite_dint, ite_dbl, ck_opt, ck_opt0, fm_some, fm_if, fm_dec, ck_draw, ck_draw0, ix_tm, ix_lm, ix0, ix1, ix2, ix3, Int.toNat_sub, ← Int.natCast_add, Int.toNat_natCast_add_one, min_m, max_m, min_mc, max_mc, sum_m, all_m, any_m, zip_m, enm_m, frs_mapf, mc_pp, mc_draw, getI_nat, inb_nat, List.length_map, List.length_range, List.mem_range, List.length_zip, List.length_append, wfor_map, decide_eq_true_eq, reduceCtorEq, eqOk_intT, eqOk_blT, nc_one, nc_suc, nc_pre, nc_pre2, nc_sub, cast_sub1, cast_sub2, e_intN, e_blN, beq_iff_eq, Bool.and_true, Bool.true_and, Bool.and_false, Bool.false_and]
      exact two_ok cx cy l (q.1 ⟨h0, h1⟩)
    · simp only [h1, v_var, v_int, v_bl, v_non, v_str, v_glo, v_bin, v_neg, v_cmp, v_chain, v_and, v_or, v_not, v_ite, v_tup, v_lst, v_dnew, v_idx, v_sl, v_rev, v_call, v_blt, v_isi, v_said, v_lc, vs_nil, vs_cons, vO_none, vO_some, vC_none, vC_some, va_one, va_cons, vo_one, vo_cons, w_asg, w_mov, w_lcs, w_par, w_par3, w_app, w_set, w_aug, w_ret, w_retL, w_retA, w_movA, w_retv, w_retN, w_ife, w_whl, w_fr, w_frL, w_expr, w_rse, w_pas, w_brk, w_cnt, ws_nil, ws_cons, restr, frzL, augW, optV_some, getV_some, intV_int, blV_bl, ownV_lst, entry, List.map_cons, List.map_nil, List.length_cons, List.length_nil, endPost, List.getElem?_cons_zero, List.getElem?_cons_succ, List.cons_append, List.nil_append, Wk.fr, Wk.frs, b_add, b_sub, b_mul, b_div, b_mod, b_pow, b_addT, b_addL, b_mulL, b_mulT, q_lt, q_le, q_gt, q_ge, q_eq, q_ne, q_isN, q_isnN, l_tup, l_lst, l_scr, r_tup, r_lst, a_lenT, a_lenL, a_abs, a_int, a_tupT, a_tupL, a_lstT, a_lstL, a_min2, a_max2, s_seqT, s_seqL, rng_m, rng2_m, s_enm, s_zipT, s_zipL, t_name, t_tupT, t_tupL, t_nil, t_cons, u_bl, u_int, u_tup, u_lst, isiD, ty_int_int, ty_int_bool, ty_int_str, ty_int_tuple, ty_int_list, ty_int_dict, ty_bool_int, ty_bool_bool, ty_bool_str, ty_bool_tuple, ty_bool_list, ty_bool_dict, ty_str_int, ty_str_bool, ty_str_str, ty_str_tuple, ty_str_list, ty_str_dict, ty_tuple_int, ty_tuple_bool, ty_tuple_str, ty_tuple_tuple, ty_tuple_list, ty_tuple_dict, ty_list_int, ty_list_bool, ty_list_str, ty_list_tuple, ty_list_list, ty_list_dict, ty_dict_int, ty_dict_bool, ty_dict_str, ty_dict_tuple, ty_dict_list, ty_dict_dict, Bool.not_true, Bool.not_false, Bool.or_false, Bool.false_or, Bool.or_true, Bool.true_or, List.set_cons_zero, List.set_cons_succ, wipeE, Nat.zero_add, Nat.reduceAdd, Nat.reduceSub, List.replicate_succ, List.replicate_zero, Option.bind_some, if_true, Int.toNat_natCast, ne0_1, ne0_2, ne0_3, ne0_4, true_and, and_true, Option.map_some, if_false, n_non, n_bl, n_int, n_str, n_tup, n_lst, Bool.false_eq_true, List.contains_cons, List.contains_nil, Nat.reduceBEq, BEq.rfl, decide_true, decide_false, andL, compW_K, compK_map, ite_KK, ite_PK, ite_KP, ite_PP, ite_some, ite_dint, ite_dbl, ck_opt, ck_opt0, fm_some, fm_if, fm_dec, ck_draw, ck_draw0, ix_tm, ix_lm, ix0, ix1, ix2, ix3, Int.toNat_sub, ← Int.natCast_add, Int.toNat_natCast_add_one, min_m, max_m, min_mc, max_mc, sum_m, all_m, any_m, zip_m, enm_m, frs_mapf, mc_pp, mc_draw, getI_nat, inb_nat, List.length_map, List.length_range, List.mem_range, List.length_zip, List.length_append, wfor_map, decide_eq_true_eq, reduceCtorEq, eqOk_intT, eqOk_blT, nc_one, nc_suc, nc_pre, nc_pre2, nc_sub, cast_sub1, cast_sub2, e_intN, e_blN, beq_iff_eq, Bool.and_true, Bool.true_and, Bool.and_false, Bool.false_and]
      exact q.2 fun h => h1 h.2
  · have h0' : (cat ys 0 == 0) = false := by simp [h0]
    simp only [h0', v_var, v_int, v_bl, v_non, v_str, v_glo, v_bin, v_neg, v_cmp, v_chain, v_and, v_or, v_not, v_ite, v_tup, v_lst, v_dnew, v_idx, v_sl, v_rev, v_call, v_blt, v_isi, v_said, v_lc, vs_nil, vs_cons, vO_none, vO_some, vC_none, vC_some, va_one, va_cons, vo_one, vo_cons, w_asg, w_mov, w_lcs, w_par, w_par3, w_app, w_set, w_aug, w_ret, w_retL, w_retA, w_movA, w_retv, w_retN, w_ife, w_whl, w_fr, w_frL, w_expr, w_rse, w_pas, w_brk, w_cnt, ws_nil, ws_cons, restr, frzL, augW, optV_some, getV_some, intV_int, blV_bl, ownV_lst, entry, List.map_cons, List.map_nil, List.length_cons, List.length_nil, endPost, List.getElem?_cons_zero, List.getElem?_cons_succ, List.cons_append, List.nil_append, Wk.fr, Wk.frs, b_add, b_sub, b_mul, b_div, b_mod, b_pow, b_addT, b_addL, b_mulL, b_mulT, q_lt, q_le, q_gt, q_ge, q_eq, q_ne, q_isN, q_isnN, l_tup, l_lst, l_scr, r_tup, r_lst, a_lenT, a_lenL, a_abs, a_int, a_tupT, a_tupL, a_lstT, a_lstL, a_min2, a_max2, s_seqT, s_seqL, rng_m, rng2_m, s_enm, s_zipT, s_zipL, t_name, t_tupT, t_tupL, t_nil, t_cons, u_bl, u_int, u_tup, u_lst, isiD, ty_int_int, ty_int_bool, ty_int_str, ty_int_tuple, ty_int_list, ty_int_dict, ty_bool_int, ty_bool_bool, ty_bool_str, ty_bool_tuple, ty_bool_list, ty_bool_dict, ty_str_int, ty_str_bool, ty_str_str, ty_str_tuple, ty_str_list, ty_str_dict, ty_tuple_int, ty_tuple_bool, ty_tuple_str, ty_tuple_tuple, ty_tuple_list, ty_tuple_dict, ty_list_int, ty_list_bool, ty_list_str, ty_list_tuple, ty_list_list, ty_list_dict, ty_dict_int, ty_dict_bool, ty_dict_str, ty_dict_tuple, ty_dict_list, ty_dict_dict, Bool.not_true, Bool.not_false, Bool.or_false, Bool.false_or, Bool.or_true, Bool.true_or, List.set_cons_zero, List.set_cons_succ, wipeE, Nat.zero_add, Nat.reduceAdd, Nat.reduceSub, List.replicate_succ, List.replicate_zero, Option.bind_some, if_true, Int.toNat_natCast, ne0_1, ne0_2, ne0_3, ne0_4, true_and, and_true, Option.map_some, if_false, n_non, n_bl, n_int, n_str, n_tup, n_lst, Bool.false_eq_true, List.contains_cons, List.contains_nil, Nat.reduceBEq, BEq.rfl, decide_true, decide_false, andL, compW_K, compK_map, ite_KK, ite_PK, ite_KP, ite_PP, ite_some, ite_dint, ite_dbl, ck_opt, ck_opt0, fm_some, fm_if, fm_dec, ck_draw, ck_draw0, ix_tm, ix_lm, ix0, ix1, ix2, ix3, Int.toNat_sub, ← Int.natCast_add, Int.toNat_natCast_add_one, min_m, max_m, min_mc, max_mc, sum_m, all_m, any_m, zip_m, enm_m, frs_mapf, mc_pp, mc_draw, getI_nat, inb_nat, List.length_map, List.length_range, List.mem_range, List.length_zip, List.length_append, wfor_map, decide_eq_true_eq, reduceCtorEq, eqOk_intT, eqOk_blT, nc_one, nc_suc, nc_pre, nc_pre2, nc_sub, cast_sub1, cast_sub2, e_intN, e_blN, beq_iff_eq, Bool.and_true, Bool.true_and, Bool.and_false, Bool.false_and]
    exact q.2 fun h => h0 h.1
theorem shap_ok {xs ys : List Int} (cx : Curve xs) (cy : Curve ys) (l : xs.length = ys.length) (c : Cl ys) {Q : D → Prop} {Z : Err → Prop} (q : Q (cv (conv xs ys))) : mc cShaped [cv xs, cv ys] Q Z :=
  mc_iff ⟨_, _, rfl, fun xs' ys' e1 e2 _ _ _ => by
    rw [← cv_inj e1, ← cv_inj e2]
    exact ⟨fun _ => q, fun h => absurd c h⟩, fun no => absurd ⟨xs, ys, rfl, rfl, cx, cy, l⟩ no⟩
theorem shap_no {xs ys : List Int} (cx : Curve xs) (cy : Curve ys) (l : xs.length = ys.length) (c : ¬ Cl ys) {Q : D → Prop} {Z : Err → Prop} (z : Z noCurve) : mc cShaped [cv xs, cv ys] Q Z :=
  mc_iff ⟨_, _, rfl, fun xs' ys' e1 e2 _ _ _ => by
    rw [← cv_inj e1, ← cv_inj e2]
    exact ⟨fun h => absurd h c, fun _ => z⟩, fun no => absurd ⟨xs, ys, rfl, rfl, cx, cy, l⟩ no⟩
theorem shap_bad {a b : D} (h : ¬ OkPair a b) {Q : D → Prop} {Z : Err → Prop} (z : Z noCurve) : mc cShaped [a, b] Q Z :=
  mc_iff ⟨_, _, rfl, fun xs' ys' e1 e2 c1 c2 l => absurd ⟨xs', ys', e1, e2, c1, c2, l⟩ h, fun no => z⟩
/-! ## the law's own -/
def cClosedL : Con := fun ds Q _ => ∃ xs, ds = [cv xs] ∧ Curve xs ∧ Q (cv (closed xs))
theorem n19 : ∀ ds Q Z, ds.length = 1 → Wk.frs ds = ds → cClosedL ds Q Z → wps (GG C k S) s__law_closed (entry N__law_closed ds) (endPost Q Z) := by
  rintro ds Q Z hl hf ⟨xs, rfl, cx, q⟩
  have n1 : 1 ≤ xs.length := cx.pos
  have n60 := cx.len
  (simp only [s__law_closed, N__law_closed, v_var, v_int, v_bl, v_non, v_str, v_glo, v_bin, v_neg, v_cmp, v_chain, v_and, v_or, v_not, v_ite, v_tup, v_lst, v_dnew, v_idx, v_sl, v_rev, v_call, v_blt, v_isi, v_said, v_lc, vs_nil, vs_cons, vO_none, vO_some, vC_none, vC_some, va_one, va_cons, vo_one, vo_cons, w_asg, w_mov, w_lcs, w_par, w_par3, w_app, w_set, w_aug, w_ret, w_retL, w_retA, w_movA, w_retv, w_retN, w_ife, w_whl, w_fr, w_frL, w_expr, w_rse, w_pas, w_brk, w_cnt, ws_nil, ws_cons, restr, frzL, augW, optV_some, getV_some, intV_int, blV_bl, ownV_lst, entry, List.map_cons, List.map_nil, List.length_cons, List.length_nil, endPost, List.getElem?_cons_zero, List.getElem?_cons_succ, List.cons_append, List.nil_append, Wk.fr, Wk.frs, b_add, b_sub, b_mul, b_div, b_mod, b_pow, b_addT, b_addL, b_mulL, b_mulT, q_lt, q_le, q_gt, q_ge, q_eq, q_ne, q_isN, q_isnN, l_tup, l_lst, l_scr, r_tup, r_lst, a_lenT, a_lenL, a_abs, a_int, a_tupT, a_tupL, a_lstT, a_lstL, a_min2, a_max2, s_seqT, s_seqL, rng_m, rng2_m, s_enm, s_zipT, s_zipL, t_name, t_tupT, t_tupL, t_nil, t_cons, u_bl, u_int, u_tup, u_lst, isiD, ty_int_int, ty_int_bool, ty_int_str, ty_int_tuple, ty_int_list, ty_int_dict, ty_bool_int, ty_bool_bool, ty_bool_str, ty_bool_tuple, ty_bool_list, ty_bool_dict, ty_str_int, ty_str_bool, ty_str_str, ty_str_tuple, ty_str_list, ty_str_dict, ty_tuple_int, ty_tuple_bool, ty_tuple_str, ty_tuple_tuple, ty_tuple_list, ty_tuple_dict, ty_list_int, ty_list_bool, ty_list_str, ty_list_tuple, ty_list_list, ty_list_dict, ty_dict_int, ty_dict_bool, ty_dict_str, ty_dict_tuple, ty_dict_list, ty_dict_dict, Bool.not_true, Bool.not_false, Bool.or_false, Bool.false_or, Bool.or_true, Bool.true_or, List.set_cons_zero, List.set_cons_succ, wipeE, Nat.zero_add, Nat.reduceAdd, Nat.reduceSub, List.replicate_succ, List.replicate_zero, Option.bind_some, if_true, Int.toNat_natCast, ne0_1, ne0_2, ne0_3, ne0_4, true_and, and_true, Option.map_some, if_false, n_non, n_bl, n_int, n_str, n_tup, n_lst, Bool.false_eq_true, List.contains_cons, List.contains_nil, Nat.reduceBEq, BEq.rfl, decide_true, decide_false, andL, compW_K, compK_map, ite_KK, ite_PK, ite_KP, ite_PP, ite_some, ite_dint, ite_dbl, ck_opt, ck_opt0, fm_some, fm_if, fm_dec, ck_draw, ck_draw0, ix_tm, ix_lm, ix0, ix1, ix2, ix3, Int.toNat_sub, ← Int.natCast_add, Int.toNat_natCast_add_one, min_m, max_m, min_mc, max_mc, sum_m, all_m, any_m, zip_m, enm_m, frs_mapf, mc_pp, mc_draw, getI_nat, inb_nat, List.length_map, List.length_range, List.mem_range, List.length_zip, List.length_append, wfor_map, decide_eq_true_eq, reduceCtorEq, eqOk_intT, eqOk_blT, nc_one, nc_suc, nc_pre, nc_pre2, nc_sub, cast_sub1, cast_sub2, e_intN, e_blN, beq_iff_eq, Bool.and_true, Bool.true_and, Bool.and_false, Bool.false_and]; try simp only [s__law_closed, N__law_closed, v_var, v_int, v_bl, v_non, v_str, v_glo, v_bin, v_neg, v_cmp, v_chain, v_and, v_or, v_not, v_ite, v_tup, v_lst, v_dnew, v_idx, v_sl, v_rev, v_call, v_blt, v_isi, v_said, v_lc, vs_nil, vs_cons, vO_none, vO_some, vC_none, vC_some, va_one, va_cons, vo_one, vo_cons, w_asg, w_mov, w_lcs, w_par, w_par3, w_app, w_set, w_aug, w_ret, w_retL, w_retA, w_movA, w_retv, w_retN, w_ife, w_whl, w_fr, w_frL, w_expr, w_rse, w_pas, w_brk, w_cnt, ws_nil, ws_cons, restr, frzL, augW, optV_some, getV_some, intV_int, blV_bl, ownV_lst, entry, List.map_cons, List.map_nil, List.length_cons, List.length_nil, endPost, List.getElem?_cons_zero, List.getElem?_cons_succ, List.cons_append, List.nil_append, Wk.fr, Wk.frs, b_add, b_sub, b_mul, b_div, b_mod, b_pow, b_addT, b_addL, b_mulL, b_mulT, q_lt, q_le, q_gt, q_ge, q_eq, q_ne, q_isN, q_isnN, l_tup, l_lst, l_scr, r_tup, r_lst, a_lenT, a_lenL, a_abs, a_int, a_tupT, a_tupL, a_lstT, a_lstL, a_min2, a_max2, s_seqT, s_seqL, rng_m, rng2_m, s_enm, s_zipT, s_zipL, t_name, t_tupT, t_tupL, t_nil, t_cons, u_bl, u_int, u_tup, u_lst, isiD, ty_int_int, ty_int_bool, ty_int_str, ty_int_tuple, ty_int_list, ty_int_dict, ty_bool_int, ty_bool_bool, ty_bool_str, ty_bool_tuple, ty_bool_list, ty_bool_dict, ty_str_int, ty_str_bool, ty_str_str, ty_str_tuple, ty_str_list, ty_str_dict, ty_tuple_int, ty_tuple_bool, ty_tuple_str, ty_tuple_tuple, ty_tuple_list, ty_tuple_dict, ty_list_int, ty_list_bool, ty_list_str, ty_list_tuple, ty_list_list, ty_list_dict, ty_dict_int, ty_dict_bool, ty_dict_str, ty_dict_tuple, ty_dict_list, ty_dict_dict, Bool.not_true, Bool.not_false, Bool.or_false, Bool.false_or, Bool.or_true, Bool.true_or, List.set_cons_zero, List.set_cons_succ, wipeE, Nat.zero_add, Nat.reduceAdd, Nat.reduceSub, List.replicate_succ, List.replicate_zero, Option.bind_some, if_true, Int.toNat_natCast, ne0_1, ne0_2, ne0_3, ne0_4, true_and, and_true, Option.map_some, if_false, n_non, n_bl, n_int, n_str, n_tup, n_lst, Bool.false_eq_true, List.contains_cons, List.contains_nil, Nat.reduceBEq, BEq.rfl, decide_true, decide_false, andL, compW_K, compK_map, ite_KK, ite_PK, ite_KP, ite_PP, ite_some, ite_dint, ite_dbl, ck_opt, ck_opt0, fm_some, fm_if, fm_dec, ck_draw, ck_draw0, ix_tm, ix_lm, ix0, ix1, ix2, ix3, Int.toNat_sub, ← Int.natCast_add, Int.toNat_natCast_add_one, min_m, max_m, min_mc, max_mc, sum_m, all_m, any_m, zip_m, enm_m, frs_mapf, mc_pp, mc_draw, getI_nat, inb_nat, List.length_map, List.length_range, List.mem_range, List.length_zip, List.length_append, wfor_map, decide_eq_true_eq, reduceCtorEq, eqOk_intT, eqOk_blT, nc_one, nc_suc, nc_pre, nc_pre2, nc_sub, cast_sub1, cast_sub2, e_intN, e_blN, beq_iff_eq, Bool.and_true, Bool.true_and, Bool.and_false, Bool.false_and])
  and_intros
  all_goals try (first | rfl | omega)
  rw [show ((xs.length : Int) - 1).toNat = xs.length - 1 by omega]
  refine wfor_rng (fun i e => ∃ z1 z2, e = [some (cv xs), some (.lst true ((clo xs (i + 1)).map D.int)), z1, z2]) ⟨_, _, rfl⟩ ?_ ?_
  · rintro e ⟨z1, z2, rfl⟩
    rw [show xs.length - 1 + 1 = xs.length by omega]
    (simp only [frs_int, v_var, v_int, v_bl, v_non, v_str, v_glo, v_bin, v_neg, v_cmp, v_chain, v_and, v_or, v_not, v_ite, v_tup, v_lst, v_dnew, v_idx, v_sl, v_rev, v_call, v_blt, v_isi, v_said, v_lc, vs_nil, vs_cons, vO_none, vO_some, vC_none, vC_some, va_one, va_cons, vo_one, vo_cons, w_asg, w_mov, w_lcs, w_par, w_par3, w_app, w_set, w_aug, w_ret, w_retL, w_retA, w_movA, w_retv, w_retN, w_ife, w_whl, w_fr, w_frL, w_expr, w_rse, w_pas, w_brk, w_cnt, ws_nil, ws_cons, restr, frzL, augW, optV_some, getV_some, intV_int, blV_bl, ownV_lst, entry, List.map_cons, List.map_nil, List.length_cons, List.length_nil, endPost, List.getElem?_cons_zero, List.getElem?_cons_succ, List.cons_append, List.nil_append, Wk.fr, Wk.frs, b_add, b_sub, b_mul, b_div, b_mod, b_pow, b_addT, b_addL, b_mulL, b_mulT, q_lt, q_le, q_gt, q_ge, q_eq, q_ne, q_isN, q_isnN, l_tup, l_lst, l_scr, r_tup, r_lst, a_lenT, a_lenL, a_abs, a_int, a_tupT, a_tupL, a_lstT, a_lstL, a_min2, a_max2, s_seqT, s_seqL, rng_m, rng2_m, s_enm, s_zipT, s_zipL, t_name, t_tupT, t_tupL, t_nil, t_cons, u_bl, u_int, u_tup, u_lst, isiD, ty_int_int, ty_int_bool, ty_int_str, ty_int_tuple, ty_int_list, ty_int_dict, ty_bool_int, ty_bool_bool, ty_bool_str, ty_bool_tuple, ty_bool_list, ty_bool_dict, ty_str_int, ty_str_bool, ty_str_str, ty_str_tuple, ty_str_list, ty_str_dict, ty_tuple_int, ty_tuple_bool, ty_tuple_str, ty_tuple_tuple, ty_tuple_list, ty_tuple_dict, ty_list_int, ty_list_bool, ty_list_str, ty_list_tuple, ty_list_list, ty_list_dict, ty_dict_int, ty_dict_bool, ty_dict_str, ty_dict_tuple, ty_dict_list, ty_dict_dict, Bool.not_true, Bool.not_false, Bool.or_false, Bool.false_or, Bool.or_true, Bool.true_or, List.set_cons_zero, List.set_cons_succ, wipeE, Nat.zero_add, Nat.reduceAdd, Nat.reduceSub, List.replicate_succ, List.replicate_zero, Option.bind_some, if_true, Int.toNat_natCast, ne0_1, ne0_2, ne0_3, ne0_4, true_and, and_true, Option.map_some, if_false, n_non, n_bl, n_int, n_str, n_tup, n_lst, Bool.false_eq_true, List.contains_cons, List.contains_nil, Nat.reduceBEq, BEq.rfl, decide_true, decide_false, andL, compW_K, compK_map, ite_KK, ite_PK, ite_KP, ite_PP, ite_some, ite_dint, ite_dbl, ck_opt, ck_opt0, fm_some, fm_if, fm_dec, ck_draw, ck_draw0, ix_tm, ix_lm, ix0, ix1, ix2, ix3, Int.toNat_sub, ← Int.natCast_add, Int.toNat_natCast_add_one, min_m, max_m, min_mc, max_mc, sum_m, all_m, any_m, zip_m, enm_m, frs_mapf, mc_pp, mc_draw, getI_nat, inb_nat, List.length_map, List.length_range, List.mem_range, List.length_zip, List.length_append, wfor_map, decide_eq_true_eq, reduceCtorEq, eqOk_intT, eqOk_blT, nc_one, nc_suc, nc_pre, nc_pre2, nc_sub, cast_sub1, cast_sub2, e_intN, e_blN, beq_iff_eq, Bool.and_true, Bool.true_and, Bool.and_false, Bool.false_and]; try simp only [frs_int, v_var, v_int, v_bl, v_non, v_str, v_glo, v_bin, v_neg, v_cmp, v_chain, v_and, v_or, v_not, v_ite, v_tup, v_lst, v_dnew, v_idx, v_sl, v_rev, v_call, v_blt, v_isi, v_said, v_lc, vs_nil, vs_cons, vO_none, vO_some, vC_none, vC_some, va_one, va_cons, vo_one, vo_cons, w_asg, w_mov, w_lcs, w_par, w_par3, w_app, w_set, w_aug, w_ret, w_retL, w_retA, w_movA, w_retv, w_retN, w_ife, w_whl, w_fr, w_frL, w_expr, w_rse, w_pas, w_brk, w_cnt, ws_nil, ws_cons, restr, frzL, augW, optV_some, getV_some, intV_int, blV_bl, ownV_lst, entry, List.map_cons, List.map_nil, List.length_cons, List.length_nil, endPost, List.getElem?_cons_zero, List.getElem?_cons_succ, List.cons_append, List.nil_append, Wk.fr, Wk.frs, b_add, b_sub, b_mul, b_div, b_mod, b_pow, b_addT, b_addL, b_mulL, b_mulT, q_lt, q_le, q_gt, q_ge, q_eq, q_ne, q_isN, q_isnN, l_tup, l_lst, l_scr, r_tup, r_lst, a_lenT, a_lenL, a_abs, a_int, a_tupT, a_tupL, a_lstT, a_lstL, a_min2, a_max2, s_seqT, s_seqL, rng_m, rng2_m, s_enm, s_zipT, s_zipL, t_name, t_tupT, t_tupL, t_nil, t_cons, u_bl, u_int, u_tup, u_lst, isiD, ty_int_int, ty_int_bool, ty_int_str, ty_int_tuple, ty_int_list, ty_int_dict, ty_bool_int, ty_bool_bool, ty_bool_str, ty_bool_tuple, ty_bool_list, ty_bool_dict, ty_str_int, ty_str_bool, ty_str_str, ty_str_tuple, ty_str_list, ty_str_dict, ty_tuple_int, ty_tuple_bool, ty_tuple_str, ty_tuple_tuple, ty_tuple_list, ty_tuple_dict, ty_list_int, ty_list_bool, ty_list_str, ty_list_tuple, ty_list_list, ty_list_dict, ty_dict_int, ty_dict_bool, ty_dict_str, ty_dict_tuple, ty_dict_list, ty_dict_dict, Bool.not_true, Bool.not_false, Bool.or_false, Bool.false_or, Bool.or_true, Bool.true_or, List.set_cons_zero, List.set_cons_succ, wipeE, Nat.zero_add, Nat.reduceAdd, Nat.reduceSub, List.replicate_succ, List.replicate_zero, Option.bind_some, if_true, Int.toNat_natCast, ne0_1, ne0_2, ne0_3, ne0_4, true_and, and_true, Option.map_some, if_false, n_non, n_bl, n_int, n_str, n_tup, n_lst, Bool.false_eq_true, List.contains_cons, List.contains_nil, Nat.reduceBEq, BEq.rfl, decide_true, decide_false, andL, compW_K, compK_map, ite_KK, ite_PK, ite_KP, ite_PP, ite_some, ite_dint, ite_dbl, ck_opt, ck_opt0, fm_some, fm_if, fm_dec, ck_draw, ck_draw0, ix_tm, ix_lm, ix0, ix1, ix2, ix3, Int.toNat_sub, ← Int.natCast_add, Int.toNat_natCast_add_one, min_m, max_m, min_mc, max_mc, sum_m, all_m, any_m, zip_m, enm_m, frs_mapf, mc_pp, mc_draw, getI_nat, inb_nat, List.length_map, List.length_range, List.mem_range, List.length_zip, List.length_append, wfor_map, decide_eq_true_eq, reduceCtorEq, eqOk_intT, eqOk_blT, nc_one, nc_suc, nc_pre, nc_pre2, nc_sub, cast_sub1, cast_sub2, e_intN, e_blN, beq_iff_eq, Bool.and_true, Bool.true_and, Bool.and_false, Bool.false_and])
    exact q
  · rintro i hi e ⟨z1, z2, rfl⟩ N hN
    unfold turnW
    (simp only [clo_len, v_var, v_int, v_bl, v_non, v_str, v_glo, v_bin, v_neg, v_cmp, v_chain, v_and, v_or, v_not, v_ite, v_tup, v_lst, v_dnew, v_idx, v_sl, v_rev, v_call, v_blt, v_isi, v_said, v_lc, vs_nil, vs_cons, vO_none, vO_some, vC_none, vC_some, va_one, va_cons, vo_one, vo_cons, w_asg, w_mov, w_lcs, w_par, w_par3, w_app, w_set, w_aug, w_ret, w_retL, w_retA, w_movA, w_retv, w_retN, w_ife, w_whl, w_fr, w_frL, w_expr, w_rse, w_pas, w_brk, w_cnt, ws_nil, ws_cons, restr, frzL, augW, optV_some, getV_some, intV_int, blV_bl, ownV_lst, entry, List.map_cons, List.map_nil, List.length_cons, List.length_nil, endPost, List.getElem?_cons_zero, List.getElem?_cons_succ, List.cons_append, List.nil_append, Wk.fr, Wk.frs, b_add, b_sub, b_mul, b_div, b_mod, b_pow, b_addT, b_addL, b_mulL, b_mulT, q_lt, q_le, q_gt, q_ge, q_eq, q_ne, q_isN, q_isnN, l_tup, l_lst, l_scr, r_tup, r_lst, a_lenT, a_lenL, a_abs, a_int, a_tupT, a_tupL, a_lstT, a_lstL, a_min2, a_max2, s_seqT, s_seqL, rng_m, rng2_m, s_enm, s_zipT, s_zipL, t_name, t_tupT, t_tupL, t_nil, t_cons, u_bl, u_int, u_tup, u_lst, isiD, ty_int_int, ty_int_bool, ty_int_str, ty_int_tuple, ty_int_list, ty_int_dict, ty_bool_int, ty_bool_bool, ty_bool_str, ty_bool_tuple, ty_bool_list, ty_bool_dict, ty_str_int, ty_str_bool, ty_str_str, ty_str_tuple, ty_str_list, ty_str_dict, ty_tuple_int, ty_tuple_bool, ty_tuple_str, ty_tuple_tuple, ty_tuple_list, ty_tuple_dict, ty_list_int, ty_list_bool, ty_list_str, ty_list_tuple, ty_list_list, ty_list_dict, ty_dict_int, ty_dict_bool, ty_dict_str, ty_dict_tuple, ty_dict_list, ty_dict_dict, Bool.not_true, Bool.not_false, Bool.or_false, Bool.false_or, Bool.or_true, Bool.true_or, List.set_cons_zero, List.set_cons_succ, wipeE, Nat.zero_add, Nat.reduceAdd, Nat.reduceSub, List.replicate_succ, List.replicate_zero, Option.bind_some, if_true, Int.toNat_natCast, ne0_1, ne0_2, ne0_3, ne0_4, true_and, and_true, Option.map_some, if_false, n_non, n_bl, n_int, n_str, n_tup, n_lst, Bool.false_eq_true, List.contains_cons, List.contains_nil, Nat.reduceBEq, BEq.rfl, decide_true, decide_false, andL, compW_K, compK_map, ite_KK, ite_PK, ite_KP, ite_PP, ite_some, ite_dint, ite_dbl, ck_opt, ck_opt0, fm_some, fm_if, fm_dec, ck_draw, ck_draw0, ix_tm, ix_lm, ix0, ix1, ix2, ix3, Int.toNat_sub, ← Int.natCast_add, Int.toNat_natCast_add_one, min_m, max_m, min_mc, max_mc, sum_m, all_m, any_m, zip_m, enm_m, frs_mapf, mc_pp, mc_draw, getI_nat, inb_nat, List.length_map, List.length_range, List.mem_range, List.length_zip, List.length_append, wfor_map, decide_eq_true_eq, reduceCtorEq, eqOk_intT, eqOk_blT, nc_one, nc_suc, nc_pre, nc_pre2, nc_sub, cast_sub1, cast_sub2, e_intN, e_blN, beq_iff_eq, Bool.and_true, Bool.true_and, Bool.and_false, Bool.false_and]; try simp only [clo_len, v_var, v_int, v_bl, v_non, v_str, v_glo, v_bin, v_neg, v_cmp, v_chain, v_and, v_or, v_not, v_ite, v_tup, v_lst, v_dnew, v_idx, v_sl, v_rev, v_call, v_blt, v_isi, v_said, v_lc, vs_nil, vs_cons, vO_none, vO_some, vC_none, vC_some, va_one, va_cons, vo_one, vo_cons, w_asg, w_mov, w_lcs, w_par, w_par3, w_app, w_set, w_aug, w_ret, w_retL, w_retA, w_movA, w_retv, w_retN, w_ife, w_whl, w_fr, w_frL, w_expr, w_rse, w_pas, w_brk, w_cnt, ws_nil, ws_cons, restr, frzL, augW, optV_some, getV_some, intV_int, blV_bl, ownV_lst, entry, List.map_cons, List.map_nil, List.length_cons, List.length_nil, endPost, List.getElem?_cons_zero, List.getElem?_cons_succ, List.cons_append, List.nil_append, Wk.fr, Wk.frs, b_add, b_sub, b_mul, b_div, b_mod, b_pow, b_addT, b_addL, b_mulL, b_mulT, q_lt, q_le, q_gt, q_ge, q_eq, q_ne, q_isN, q_isnN, l_tup, l_lst, l_scr, r_tup, r_lst, a_lenT, a_lenL, a_abs, a_int, a_tupT, a_tupL, a_lstT, a_lstL, a_min2, a_max2, s_seqT, s_seqL, rng_m, rng2_m, s_enm, s_zipT, s_zipL, t_name, t_tupT, t_tupL, t_nil, t_cons, u_bl, u_int, u_tup, u_lst, isiD, ty_int_int, ty_int_bool, ty_int_str, ty_int_tuple, ty_int_list, ty_int_dict, ty_bool_int, ty_bool_bool, ty_bool_str, ty_bool_tuple, ty_bool_list, ty_bool_dict, ty_str_int, ty_str_bool, ty_str_str, ty_str_tuple, ty_str_list, ty_str_dict, ty_tuple_int, ty_tuple_bool, ty_tuple_str, ty_tuple_tuple, ty_tuple_list, ty_tuple_dict, ty_list_int, ty_list_bool, ty_list_str, ty_list_tuple, ty_list_list, ty_list_dict, ty_dict_int, ty_dict_bool, ty_dict_str, ty_dict_tuple, ty_dict_list, ty_dict_dict, Bool.not_true, Bool.not_false, Bool.or_false, Bool.false_or, Bool.or_true, Bool.true_or, List.set_cons_zero, List.set_cons_succ, wipeE, Nat.zero_add, Nat.reduceAdd, Nat.reduceSub, List.replicate_succ, List.replicate_zero, Option.bind_some, if_true, Int.toNat_natCast, ne0_1, ne0_2, ne0_3, ne0_4, true_and, and_true, Option.map_some, if_false, n_non, n_bl, n_int, n_str, n_tup, n_lst, Bool.false_eq_true, List.contains_cons, List.contains_nil, Nat.reduceBEq, BEq.rfl, decide_true, decide_false, andL, compW_K, compK_map, ite_KK, ite_PK, ite_KP, ite_PP, ite_some, ite_dint, ite_dbl, ck_opt, ck_opt0, fm_some, fm_if, fm_dec, ck_draw, ck_draw0, ix_tm, ix_lm, ix0, ix1, ix2, ix3, Int.toNat_sub, ← Int.natCast_add, Int.toNat_natCast_add_one, min_m, max_m, min_mc, max_mc, sum_m, all_m, any_m, zip_m, enm_m, frs_mapf, mc_pp, mc_draw, getI_nat, inb_nat, List.length_map, List.length_range, List.mem_range, List.length_zip, List.length_append, wfor_map, decide_eq_true_eq, reduceCtorEq, eqOk_intT, eqOk_blT, nc_one, nc_suc, nc_pre, nc_pre2, nc_sub, cast_sub1, cast_sub2, e_intN, e_blN, beq_iff_eq, Bool.and_true, Bool.true_and, Bool.and_false, Bool.false_and])
    have ns : 2 ^ 24 = sizeLine := rfl
    refine ⟨?_, ?_⟩
    · and_intros
      all_goals try (first | rfl | omega)
      intro y hy
      exact ⟨by omega, by unfold inb; omega⟩
    · refine hN _ ⟨some (.int ((1 + i : Nat) : Int)), z2, ?_⟩
      have e : clo xs (i + 1 + 1) = clo xs (i + 1) ++ [mn (xs.getD (i + 1) 0 :: (List.range i).map fun a => (clo xs (i + 1)).getD (1 + a) 0 + (clo xs (i + 1)).getD (i - a) 0)] := rfl
      rw [e, List.map_append]
      have e2 : (List.range i).map (fun a => (clo xs (i + 1)).getD (1 + a) default + getI (clo xs (i + 1)) ((i : Int) - (a : Int))) = (List.range i).map fun a => (clo xs (i + 1)).getD (1 + a) 0 + (clo xs (i + 1)).getD (i - a) 0 := by
        refine List.map_congr_left fun a ha => ?_
        have ha : a < i := by simpa using ha
        rw [show (i : Int) - (a : Int) = ((i - a : Nat) : Int) by omega, getI_nat]
        rfl
      rw [e2, Nat.add_comm 1 i]
      rfl
end T71
end sec_L71b

section sec_L71c
set_option Elab.async false
set_option linter.all false
set_option maxRecDepth 100000
set_option maxHeartbeats 4000000
namespace T71
open PySem PySem.Spec Wk
/-! ## the law's curves -/
def cCurveM : Con := fun ds Q _ => ∃ (n : Nat) (most : Int), ds = [.hand, .int n, .int most] ∧ n ≤ 12 ∧ (1 ≤ most ∧ most ≤ 9) ∧ ∀ xs, P n 200 xs → Q (cv xs)
variable (C : Nat → Con) (S : Nat → Except Err D → (D → Prop) → Prop) (k : Nat)
theorem n15 (h7 : C 12 = cDraw) (h8 : C 13 = cAny) : ∀ ds Q Z, ds.length = 3 → Wk.frs ds = ds → cCurveM ds Q Z → wps (GG C k S) s__law_curve (entry N__law_curve ds) (endPost Q Z) := by
  rintro ds Q Z hl hf ⟨n, most, rfl, hn, ⟨m1, m9⟩, q⟩
  have main : ∀ y : Int, 0 ≤ y → y < most → ∃ I : Nat → Env' → Prop, I 0 [some D.hand, some (D.int ↑n), some (D.int most), none, some (D.lst true []), some (.int y)] ∧
      (∀ env', I (List.map (fun i : Nat => D.int (i : Int)) (List.range n)).length env' → wps (GG C k S) [.retA (.blt .tuple [.var 4])] env' (endPost Q Z)) ∧
      ∀ (i : Nat) (d : D) (env' : Env'), (List.map (fun i : Nat => D.int (i : Int)) (List.range n))[i]? = some d → I i env' → ∃ env2, bindT (.name 3) (Wk.fr d) env' = some env2 ∧
        wps (GG C k S) [.app 4 (.var 5), .asg (.name 5) (.bin .Add (.var 5) (.call 13 [.var 0, .lst [.int 0, .int 0, .int 1, .int 2, .call 12 [.var 0, .var 2]]]))] env2 { nx := I (i + 1), rt := (endPost Q Z).rt, bk := fun _ => False, ct := I (i + 1), ex := (endPost Q Z).ex } := by
    intro y hy0 hy9
    refine ⟨fun i env' => ∃ (xs : List Int) (h : Int) (z : Option D), env' = [some D.hand, some (D.int ↑n), some (D.int most), z, some (D.lst true (xs.map D.int)), some (.int h)] ∧ xs.length = i ∧ i ≤ n ∧ 0 ≤ h ∧ h ≤ 9 + 9 * i ∧ (∀ x ∈ xs, 0 ≤ x ∧ x ≤ h) ∧ ∀ p ∈ xs.zip (xs.drop 1), p.1 ≤ p.2, ⟨[], y, none, rfl, rfl, by omega, hy0, by omega, by simp, by simp⟩, ?_, ?_⟩
    · rintro env' ⟨xs, h, z, rfl, hlen, _, h0, h9, hb, hu⟩
      simp only [List.length_map, List.length_range] at hlen h9
      simp only [wps, wp, ev, evs, evO, evC, evAnd, evOr, entry, List.map_cons, List.map_nil, List.length_cons, List.length_nil, endPost, List.getElem?_cons_zero, List.getElem?_cons_succ, ex_some, ex_bl, ex_int, ex_st, ex_eq, List.cons_append, List.nil_append, Wk.fr, Wk.frs, b_add, b_sub, b_mul, b_div, b_mod, b_pow, b_addT, b_addL, b_mulL, b_mulT, q_lt, q_le, q_gt, q_ge, q_eq, q_ne, q_isN, q_isnN, i_tup, i_lst, l_tup, l_lst, l_scr, r_tup, r_lst, a_lenT, a_lenL, a_abs, a_int, a_tupT, a_tupL, a_lstT, a_lstL, a_min2, a_max2, a_sum, a_all, a_any, s_seqT, s_seqL, s_rng, s_rng2, s_enm, s_zipT, s_zipL, t_name, t_tupT, t_tupL, t_nil, t_cons, u_bl, u_int, u_tup, u_lst, isiD, ty_int_int, ty_int_bool, ty_int_str, ty_int_tuple, ty_int_list, ty_int_dict, ty_bool_int, ty_bool_bool, ty_bool_str, ty_bool_tuple, ty_bool_list, ty_bool_dict, ty_str_int, ty_str_bool, ty_str_str, ty_str_tuple, ty_str_list, ty_str_dict, ty_tuple_int, ty_tuple_bool, ty_tuple_str, ty_tuple_tuple, ty_tuple_list, ty_tuple_dict, ty_list_int, ty_list_bool, ty_list_str, ty_list_tuple, ty_list_list, ty_list_dict, ty_dict_int, ty_dict_bool, ty_dict_str, ty_dict_tuple, ty_dict_list, ty_dict_dict, Bool.not_true, Bool.not_false, Bool.or_false, Bool.false_or, Bool.or_true, Bool.true_or, List.set_cons_zero, List.set_cons_succ, wipeE,  Nat.zero_add, Nat.reduceAdd, Nat.reduceSub, List.replicate_succ, List.replicate_zero, Option.bind_some, D.bl.injEq, D.int.injEq, reduceCtorEq, Option.some.injEq, if_true, Int.toNat_natCast, at5_0, at5_1, at5_2, at5_3, at5_4, ex_own, ex_ix, ix5_1, ix5_2, ix5_3, ix5_4, ex_own', ex_ix', ne0_1, ne0_2, ne0_3, ne0_4, true_and, Option.map_some, if_false, decide_eq_true_eq, n_non, n_bl, n_int, n_str, n_tup, n_lst, Bool.false_eq_true, frs_int]
      refine q xs (P.of hlen ⟨fun x hx => ⟨(hb x hx).1, by have := (hb x hx).2; omega⟩, hu⟩)
    · rintro i d env' hd ⟨xs, h, z, rfl, hlen, hin, h0, h9, hb, hu⟩
      have hi : i < n := by
        rcases Nat.lt_or_ge i n with h | h
        · exact h
        · rw [List.getElem?_eq_none (by simpa using h)] at hd; cases hd
      refine ⟨_, t_name _ _ _, ?_⟩
      simp only [wps, wp, ev, evs, evO, evC, evAnd, evOr, entry, List.map_cons, List.map_nil, List.length_cons, List.length_nil, endPost, List.getElem?_cons_zero, List.getElem?_cons_succ, ex_some, ex_bl, ex_int, ex_st, ex_eq, List.cons_append, List.nil_append, Wk.fr, Wk.frs, b_add, b_sub, b_mul, b_div, b_mod, b_pow, b_addT, b_addL, b_mulL, b_mulT, q_lt, q_le, q_gt, q_ge, q_eq, q_ne, q_isN, q_isnN, i_tup, i_lst, l_tup, l_lst, l_scr, r_tup, r_lst, a_lenT, a_lenL, a_abs, a_int, a_tupT, a_tupL, a_lstT, a_lstL, a_min2, a_max2, a_sum, a_all, a_any, s_seqT, s_seqL, s_rng, s_rng2, s_enm, s_zipT, s_zipL, t_name, t_tupT, t_tupL, t_nil, t_cons, u_bl, u_int, u_tup, u_lst, isiD, ty_int_int, ty_int_bool, ty_int_str, ty_int_tuple, ty_int_list, ty_int_dict, ty_bool_int, ty_bool_bool, ty_bool_str, ty_bool_tuple, ty_bool_list, ty_bool_dict, ty_str_int, ty_str_bool, ty_str_str, ty_str_tuple, ty_str_list, ty_str_dict, ty_tuple_int, ty_tuple_bool, ty_tuple_str, ty_tuple_tuple, ty_tuple_list, ty_tuple_dict, ty_list_int, ty_list_bool, ty_list_str, ty_list_tuple, ty_list_list, ty_list_dict, ty_dict_int, ty_dict_bool, ty_dict_str, ty_dict_tuple, ty_dict_list, ty_dict_dict, Bool.not_true, Bool.not_false, Bool.or_false, Bool.false_or, Bool.or_true, Bool.true_or, List.set_cons_zero, List.set_cons_succ, wipeE,  Nat.zero_add, Nat.reduceAdd, Nat.reduceSub, List.replicate_succ, List.replicate_zero, Option.bind_some, D.bl.injEq, D.int.injEq, reduceCtorEq, Option.some.injEq, if_true, Int.toNat_natCast, at5_0, at5_1, at5_2, at5_3, at5_4, ex_own, ex_ix, ix5_1, ix5_2, ix5_3, ix5_4, ex_own', ex_ix', ne0_1, ne0_2, ne0_3, ne0_4, true_and, Option.map_some, if_false, decide_eq_true_eq, n_non, n_bl, n_int, n_str, n_tup, n_lst, Bool.false_eq_true, h7, h8]
      refine ⟨by rw [sizeLine_eq]; simp; omega, rfl, ?_⟩
      refine mc_iff ⟨most, rfl, by omega, by omega, fun r r0 r1 => ?_⟩
      simp only [wps, wp, ev, evs, evO, evC, evAnd, evOr, entry, List.map_cons, List.map_nil, List.length_cons, List.length_nil, endPost, List.getElem?_cons_zero, List.getElem?_cons_succ, ex_some, ex_bl, ex_int, ex_st, ex_eq, List.cons_append, List.nil_append, Wk.fr, Wk.frs, b_add, b_sub, b_mul, b_div, b_mod, b_pow, b_addT, b_addL, b_mulL, b_mulT, q_lt, q_le, q_gt, q_ge, q_eq, q_ne, q_isN, q_isnN, i_tup, i_lst, l_tup, l_lst, l_scr, r_tup, r_lst, a_lenT, a_lenL, a_abs, a_int, a_tupT, a_tupL, a_lstT, a_lstL, a_min2, a_max2, a_sum, a_all, a_any, s_seqT, s_seqL, s_rng, s_rng2, s_enm, s_zipT, s_zipL, t_name, t_tupT, t_tupL, t_nil, t_cons, u_bl, u_int, u_tup, u_lst, isiD, ty_int_int, ty_int_bool, ty_int_str, ty_int_tuple, ty_int_list, ty_int_dict, ty_bool_int, ty_bool_bool, ty_bool_str, ty_bool_tuple, ty_bool_list, ty_bool_dict, ty_str_int, ty_str_bool, ty_str_str, ty_str_tuple, ty_str_list, ty_str_dict, ty_tuple_int, ty_tuple_bool, ty_tuple_str, ty_tuple_tuple, ty_tuple_list, ty_tuple_dict, ty_list_int, ty_list_bool, ty_list_str, ty_list_tuple, ty_list_list, ty_list_dict, ty_dict_int, ty_dict_bool, ty_dict_str, ty_dict_tuple, ty_dict_list, ty_dict_dict, Bool.not_true, Bool.not_false, Bool.or_false, Bool.false_or, Bool.or_true, Bool.true_or, List.set_cons_zero, List.set_cons_succ, wipeE,  Nat.zero_add, Nat.reduceAdd, Nat.reduceSub, List.replicate_succ, List.replicate_zero, Option.bind_some, D.bl.injEq, D.int.injEq, reduceCtorEq, Option.some.injEq, if_true, Int.toNat_natCast, at5_0, at5_1, at5_2, at5_3, at5_4, ex_own, ex_ix, ix5_1, ix5_2, ix5_3, ix5_4, ex_own', ex_ix', ne0_1, ne0_2, ne0_3, ne0_4, true_and, Option.map_some, if_false, decide_eq_true_eq, n_non, n_bl, n_int, n_str, n_tup, n_lst, Bool.false_eq_true]
      refine mc_iff ⟨false, _, rfl, by simp, by simp, fun w hw => ?_⟩
      have hw' : ∃ j : Int, w = .int j ∧ 0 ≤ j ∧ j ≤ 9 := by
        simp only [List.mem_cons, List.not_mem_nil, or_false] at hw
        rcases hw with rfl | rfl | rfl | rfl | rfl
        · exact ⟨0, rfl, by omega, by omega⟩
        · exact ⟨0, rfl, by omega, by omega⟩
        · exact ⟨1, rfl, by omega, by omega⟩
        · exact ⟨2, rfl, by omega, by omega⟩
        · exact ⟨r, rfl, by omega, by omega⟩
      obtain ⟨j, rfl, j0, j9⟩ := hw'
      simp only [wps, wp, ev, evs, evO, evC, evAnd, evOr, entry, List.map_cons, List.map_nil, List.length_cons, List.length_nil, endPost, List.getElem?_cons_zero, List.getElem?_cons_succ, ex_some, ex_bl, ex_int, ex_st, ex_eq, List.cons_append, List.nil_append, Wk.fr, Wk.frs, b_add, b_sub, b_mul, b_div, b_mod, b_pow, b_addT, b_addL, b_mulL, b_mulT, q_lt, q_le, q_gt, q_ge, q_eq, q_ne, q_isN, q_isnN, i_tup, i_lst, l_tup, l_lst, l_scr, r_tup, r_lst, a_lenT, a_lenL, a_abs, a_int, a_tupT, a_tupL, a_lstT, a_lstL, a_min2, a_max2, a_sum, a_all, a_any, s_seqT, s_seqL, s_rng, s_rng2, s_enm, s_zipT, s_zipL, t_name, t_tupT, t_tupL, t_nil, t_cons, u_bl, u_int, u_tup, u_lst, isiD, ty_int_int, ty_int_bool, ty_int_str, ty_int_tuple, ty_int_list, ty_int_dict, ty_bool_int, ty_bool_bool, ty_bool_str, ty_bool_tuple, ty_bool_list, ty_bool_dict, ty_str_int, ty_str_bool, ty_str_str, ty_str_tuple, ty_str_list, ty_str_dict, ty_tuple_int, ty_tuple_bool, ty_tuple_str, ty_tuple_tuple, ty_tuple_list, ty_tuple_dict, ty_list_int, ty_list_bool, ty_list_str, ty_list_tuple, ty_list_list, ty_list_dict, ty_dict_int, ty_dict_bool, ty_dict_str, ty_dict_tuple, ty_dict_list, ty_dict_dict, Bool.not_true, Bool.not_false, Bool.or_false, Bool.false_or, Bool.or_true, Bool.true_or, List.set_cons_zero, List.set_cons_succ, wipeE,  Nat.zero_add, Nat.reduceAdd, Nat.reduceSub, List.replicate_succ, List.replicate_zero, Option.bind_some, D.bl.injEq, D.int.injEq, reduceCtorEq, Option.some.injEq, if_true, Int.toNat_natCast, at5_0, at5_1, at5_2, at5_3, at5_4, ex_own, ex_ix, ix5_1, ix5_2, ix5_3, ix5_4, ex_own', ex_ix', ne0_1, ne0_2, ne0_3, ne0_4, true_and, Option.map_some, if_false, decide_eq_true_eq, n_non, n_bl, n_int, n_str, n_tup, n_lst, Bool.false_eq_true]
      refine ⟨rfl, xs ++ [h], h + j, _, by rw [List.map_append]; rfl, by simp [hlen], by omega, by omega, by push_cast; omega, fun x hx => ?_, fun p hp => ?_⟩
      · rcases List.mem_append.mp hx with hx | hx
        · have := hb x hx; omega
        · simp at hx; subst hx; omega
      · cases xs with
        | nil => simp at hp
        | cons a xs =>
          rw [zip_snoc _ _ (by simp)] at hp
          rcases List.mem_append.mp hp with hp | hp
          · exact hu p hp
          · simp only [List.mem_singleton] at hp
            subst hp
            exact (hb _ (List.getLast_mem _)).2
  have fin : ∀ y : Int, 0 ≤ y → y < most → wps (GG C k S) [.fr (.name 3) .rng [.var 1] [.app 4 (.var 5), .asg (.name 5) (.bin .Add (.var 5) (.call 13 [.var 0, .lst [.int 0, .int 0, .int 1, .int 2, .call 12 [.var 0, .var 2]]]))], .retA (.blt .tuple [.var 4])] [some D.hand, some (D.int ↑n), some (D.int most), none, some (D.lst true []), some (.int y)] (endPost Q Z) := by
    intro y y0 y9
    obtain ⟨I, i0, f, st⟩ := main y y0 y9
    rw [wps, wp]
    simp only [evs, ev, List.getElem?_cons_zero, List.getElem?_cons_succ, ex_some, Wk.fr, s_rng, Int.toNat_natCast]
    refine ⟨by omega, by omega, I, i0, f, fun i d env' hd hI => ?_⟩
    obtain ⟨env2, b, w⟩ := st i d env' hd hI
    exact ⟨env2, b, w⟩
  rw [s__law_curve, wps, wp]
  simp only [N__law_curve, h7, ev, evs, evO, evC, evAnd, evOr, entry, List.map_cons, List.map_nil, List.length_cons, List.length_nil, endPost, List.getElem?_cons_zero, List.getElem?_cons_succ, ex_some, ex_bl, ex_int, ex_st, ex_eq, List.cons_append, List.nil_append, Wk.fr, Wk.frs, b_add, b_sub, b_mul, b_div, b_mod, b_pow, b_addT, b_addL, b_mulL, b_mulT, q_lt, q_le, q_gt, q_ge, q_eq, q_ne, q_isN, q_isnN, i_tup, i_lst, l_tup, l_lst, l_scr, r_tup, r_lst, a_lenT, a_lenL, a_abs, a_int, a_tupT, a_tupL, a_lstT, a_lstL, a_min2, a_max2, a_sum, a_all, a_any, s_seqT, s_seqL, s_rng, s_rng2, s_enm, s_zipT, s_zipL, t_name, t_tupT, t_tupL, t_nil, t_cons, u_bl, u_int, u_tup, u_lst, isiD, ty_int_int, ty_int_bool, ty_int_str, ty_int_tuple, ty_int_list, ty_int_dict, ty_bool_int, ty_bool_bool, ty_bool_str, ty_bool_tuple, ty_bool_list, ty_bool_dict, ty_str_int, ty_str_bool, ty_str_str, ty_str_tuple, ty_str_list, ty_str_dict, ty_tuple_int, ty_tuple_bool, ty_tuple_str, ty_tuple_tuple, ty_tuple_list, ty_tuple_dict, ty_list_int, ty_list_bool, ty_list_str, ty_list_tuple, ty_list_list, ty_list_dict, ty_dict_int, ty_dict_bool, ty_dict_str, ty_dict_tuple, ty_dict_list, ty_dict_dict, Bool.not_true, Bool.not_false, Bool.or_false, Bool.false_or, Bool.or_true, Bool.true_or, List.set_cons_zero, List.set_cons_succ, wipeE,  Nat.zero_add, Nat.reduceAdd, Nat.reduceSub, List.replicate_succ, List.replicate_zero, Option.bind_some, D.bl.injEq, D.int.injEq, reduceCtorEq, Option.some.injEq, if_true, Int.toNat_natCast, at5_0, at5_1, at5_2, at5_3, at5_4, ex_own, ex_ix, ix5_1, ix5_2, ix5_3, ix5_4, ex_own', ex_ix', ne0_1, ne0_2, ne0_3, ne0_4, true_and, Option.map_some, if_false, decide_eq_true_eq, n_non, n_bl, n_int, n_str, n_tup, n_lst, Bool.false_eq_true]
  refine mc_iff ⟨3, rfl, by omega, by omega, fun r r0 r1 => ⟨eqOk_int _ _, ?_⟩⟩
  by_cases h : eqD (.int r) (.int 0) = true
  · rw [if_pos h]
    refine mc_iff ⟨most, rfl, by omega, by omega, fun y y0 y9 => ⟨rfl, rfl, fin y y0 y9⟩⟩
  · rw [if_neg h]
    exact ⟨rfl, rfl, fin 0 (by omega) (by omega)⟩
theorem lists_cv (xs : List Int) (h : xs.length ≤ 1000000) : lists 1 (cv xs) := .inr ⟨_, .inl rfl, by simpa using h, fun x hx => by
  obtain ⟨i, _, rfl⟩ := List.mem_map.mp hx
  exact ⟨i, rfl⟩⟩
section
variable (Q : D → Prop) (Z : Err → Prop)
theorem clos_eq {xs : List Int} (c : Curve xs) : mc cClosed [cv xs] Q Z = Q (cv (closed xs)) := propext ⟨fun ⟨Q', Z', ⟨a, e, h, _⟩, i, _⟩ => by cases e; exact i _ (h xs rfl c), clos_ok c⟩
theorem closL_eq {xs : List Int} (c : Curve xs) : mc cClosedL [cv xs] Q Z = Q (cv (closed xs)) := propext ⟨fun ⟨Q', Z', ⟨a, e, c', h⟩, i, _⟩ => by
  simp only [List.cons.injEq, and_true] at e
  have e := cv_inj e
  subst e; exact i _ h, fun q => mc_iff ⟨xs, rfl, c, q⟩⟩
theorem two_eq {f : List Int → List Int → List Int} {xs ys : List Int} (cx : Curve xs) (cy : Curve ys) (l : xs.length = ys.length) : mc (cTwo f) [cv xs, cv ys] Q Z = Q (cv (f xs ys)) := propext ⟨fun ⟨Q', Z', ⟨a, b, e, h, _⟩, i, _⟩ => by cases e; exact i _ (h xs ys rfl rfl cx cy l), two_ok cx cy l⟩
theorem shap_eq {xs ys : List Int} (cx : Curve xs) (cy : Curve ys) (l : xs.length = ys.length) (c : Cl ys) : mc cShaped [cv xs, cv ys] Q Z = Q (cv (conv xs ys)) := propext ⟨fun ⟨Q', Z', ⟨a, b, e, h, _⟩, i, _⟩ => by cases e; exact i _ ((h xs ys rfl rfl cx cy l).1 c), shap_ok cx cy l c⟩
theorem is_eq {xs : List Int} (h : xs.length ≤ 60) : mc (cIs 1) [cv xs, cv xs] Q Z = Q (.bl true) := propext ⟨fun ⟨Q', Z', ⟨a, e, _, h⟩, i, _⟩ => i _ h, fun q => mc_iff ⟨_, rfl, lists_cv xs (by omega), q⟩⟩
theorem le_eq {xs ys : List Int} (h : xs.length ≤ 60) : mc cLe [cv xs, cv ys] Q Z = Q (.bl (leB xs ys)) := propext ⟨fun ⟨Q', Z', ⟨a, b, e, _, h⟩, i, _⟩ => by
  simp only [List.cons.injEq, and_true] at e
  have e1 := cv_inj e.1
  have e2 := cv_inj e.2
  subst e1 e2
  exact i _ h, fun q => mc_iff ⟨xs, ys, rfl, h, q⟩⟩
theorem lb_eq {xs : List Int} (c : Curve xs) : mc cLb [cv xs] Q Z = Q (cv (lb xs)) := propext ⟨fun ⟨Q', Z', ⟨a, e, _, h⟩, i, _⟩ => by
  simp only [List.cons.injEq, and_true] at e
  have e := cv_inj e
  subst e; exact i _ h, fun q => mc_iff ⟨xs, rfl, c, q⟩⟩
theorem one_eq {f : List Int → List Int → List Int} {xs ys : List Int} (l : xs.length = ys.length) (h : xs.length ≤ 60) : mc (cOne f) [cv xs, cv ys] Q Z = Q (cv (f xs ys)) := propext ⟨fun ⟨Q', Z', ⟨a, b, e, _, _, h⟩, i, _⟩ => by
  simp only [List.cons.injEq, and_true] at e
  have e1 := cv_inj e.1
  have e2 := cv_inj e.2
  subst e1 e2
  exact i _ h, fun q => mc_iff ⟨xs, ys, rfl, l, h, q⟩⟩
open Classical in
noncomputable def bndB (xs ys : List Int) : Bool := decide (Bnd xs ys)
theorem bndB_iff {xs ys : List Int} : bndB xs ys = true ↔ Bnd xs ys := by unfold bndB; simp
theorem bnd_eq {xs ys : List Int} (cx : Curve xs) (cy : Curve ys) (l : xs.length = ys.length) : mc cBnd [cv xs, cv ys] Q Z = Q (.bl (bndB xs ys)) := propext ⟨fun ⟨Q', Z', ⟨a, b, e, _, _, _, h⟩, i, _⟩ => by
  simp only [List.cons.injEq, and_true] at e
  have e1 := cv_inj e.1
  have e2 := cv_inj e.2
  subst e1 e2
  exact i _ (h _ bndB_iff), fun q => mc_iff ⟨xs, ys, rfl, cx, cy, l, fun b hb => by
    have : b = bndB xs ys := by
      rw [Bool.eq_iff_iff, hb, bndB_iff]
    rw [this]; exact q⟩⟩
theorem curve_eq {n : Nat} {most : Int} (h : n ≤ 12) (m : 1 ≤ most ∧ most ≤ 9) : mc cCurveM [.hand, .int n, .int most] Q Z = ∀ xs, P n 200 xs → Q (cv xs) := propext ⟨fun ⟨Q', Z', ⟨a, b, e, _, _, h⟩, i, _⟩ => by
  simp only [List.cons.injEq, and_true, D.int.injEq, true_and] at e
  obtain ⟨e1, rfl⟩ := e
  obtain rfl : n = a := by omega
  exact fun xs p => i _ (h xs p), fun q => mc_iff ⟨n, most, rfl, h, m, q⟩⟩
end
theorem cut_n {α : Type} (xs : List α) (m : Nat) : Wk.cutD xs none (some (m : Int)) = xs.take m := by
  unfold Wk.cutD HT.sIx
  simp only [show ¬ ((m : Int) < 0) by omega, if_false, Int.toNat_natCast, List.drop_zero, Nat.sub_zero]
  rcases Nat.le_total m xs.length with h | h
  · rw [Nat.min_eq_left h]
  · rw [Nat.min_eq_right h, List.take_length, List.take_of_length_le h]
theorem cut_n1 {α : Type} (xs : List α) (m : Nat) : Wk.cutD xs none (some ((m : Int) + 1)) = xs.take (m + 1) := cut_n xs (m + 1)
def cCR : Con := fun ds Q _ => ∃ n xs, ds = [.hand, cv xs] ∧ (1 ≤ n ∧ n ≤ 12) ∧ P n 200 xs ∧ Q (.bl true)
/-- how the lower curves are made -/
def lowOf (xs rs : List Int) : List Int := (xs.zip rs).map fun p => if p.1 - p.2 > 0 then p.1 - p.2 else 0
def runs (xs : List Int) : List Int := (List.range xs.length).map fun h => mx (xs.take (h + 1))
theorem conv_cl {n : Nat} {B : Int} {xs : List Int} (p : P n B xs) (h1 : 1 ≤ n) : conv (closed xs) (closed xs) = closed xs := by
  have pc := p.closed h1
  refine cat_ext (conv_len _ _) fun i hi => Int.le_antisymm ?_ ?_
  · rw [conv_len, pc.len] at hi
    exact conv_le_self pc (closed_0 (by rw [p.len]; omega)) i hi
  · obtain ⟨a, ha, e⟩ := conv_ex (xs := closed xs) (ys := closed xs) (h := i) (by rw [conv_len] at hi; exact hi)
    rw [e]
    rw [conv_len, pc.len] at hi
    have := closed_sub (xs := xs) (a := a) (b := i - a) (by rw [p.len]; omega)
    rw [show a + (i - a) = i by omega] at this
    exact this
theorem closed_of {n : Nat} {B : Int} {f : List Int} (p : P n B f) (h : 1 ≤ n) (f0 : cat f 0 = 0) (sub : ∀ a b, a + b < n → cat f (a + b) ≤ cat f a + cat f b) : closed f = f := by
  refine cat_ext (closed_len f) fun i hi => Int.le_antisymm ?_ ?_
  · rw [closed_len] at hi
    exact closed_le (fun j hj => (p.bd j (by rw [← p.len]; exact hj)).1) hi
  · rw [closed_len] at hi
    exact closed_greatest (by omega) (fun a b hab => sub a b (by rw [← p.len]; exact hab)) (fun j _ _ => Int.le_refl _) i hi
theorem closed_cl {n : Nat} {B : Int} {xs : List Int} (p : P n B xs) (h1 : 1 ≤ n) : closed (closed xs) = closed xs :=
  closed_of (p.closed h1) h1 (closed_0 (by rw [p.len]; omega)) fun a b hab => closed_sub (by rw [p.len]; exact hab)
theorem leB_cl {n : Nat} {B : Int} {xs : List Int} (p : P n B xs) : leB (closed xs) xs = true := (leB_iff (n := n) (by rw [closed_len, p.len]) p.len).mpr fun i hi => closed_le (fun j hj => (p.bd j (by rw [← p.len]; exact hj)).1) (by rw [p.len]; exact hi)
theorem closed_mono {n : Nat} {A B : Int} {xs ys : List Int} (p : P n A xs) (q : P n B ys) (h1 : 1 ≤ n) (h : Le n xs ys) : Le n (closed xs) (closed ys) := fun i hi => by
  refine closed_greatest (xs := ys) (s := closed xs) (by rw [closed_0 (by rw [p.len]; omega)]; omega) (fun a b hab => closed_sub (by rw [p.len]; rw [q.len] at hab; exact hab)) (fun j _ hj => ?_) i (by rw [q.len]; exact hi)
  rw [q.len] at hj
  exact Int.le_trans (closed_le (fun j hj => (p.bd j (by rw [← p.len]; exact hj)).1) (by rw [p.len]; exact hj)) (h j hj)
theorem low_len {n : Nat} {xs rs : List Int} (l : xs.length = n) (l' : rs.length = n) : (lowOf xs rs).length = n := by simp [lowOf, l, l']
theorem low_at {n : Nat} {xs rs : List Int} (l : xs.length = n) (l' : rs.length = n) {i : Nat} (hi : i < n) : cat (lowOf xs rs) i = if cat xs i - cat rs i > 0 then cat xs i - cat rs i else 0 := by
  have e : (xs.zip rs)[i]? = some (cat xs i, cat rs i) := by
    rw [List.getElem?_zip_eq_some]
    simp [cat, show i < xs.length by omega, show i < rs.length by omega]
  show (lowOf xs rs).getD i 0 = _
  rw [lowOf, List.getD_eq_getElem?_getD, List.getElem?_map, e]
  rfl
theorem runs_at {xs : List Int} {i : Nat} (hi : i < xs.length) : cat (runs xs) i = mx (xs.take (i + 1)) := by
  simp [runs, cat, hi]
theorem runs_ex {xs : List Int} {i : Nat} (hi : i < xs.length) : ∃ j, j ≤ i ∧ cat (runs xs) i = cat xs j := by
  rw [runs_at hi]
  have ne : xs.take (i + 1) ≠ [] := fun z => by
    have := congrArg List.length z
    rw [List.length_take, List.length_nil] at this
    omega
  obtain ⟨j, hj, e⟩ := List.mem_iff_getElem.mp (mx_mem ne)
  have hj' : j < i + 1 ∧ j < xs.length := by
    rw [List.length_take] at hj
    omega
  refine ⟨j, by omega, ?_⟩
  rw [← e, List.getElem_take]
  simp [cat, hj'.2]
theorem runs_ge {xs : List Int} {i j : Nat} (hi : i < xs.length) (h : j ≤ i) : cat xs j ≤ cat (runs xs) i := by
  rw [runs_at hi]
  refine le_mx (List.mem_iff_getElem.mpr ⟨j, by simp; omega, ?_⟩)
  rw [List.getElem_take]
  simp [cat, show j < xs.length by omega]
theorem runs_len (xs : List Int) : (runs xs).length = xs.length := by simp [runs]
/-- the lower curve -/
theorem low_P {n : Nat} {B : Int} {xs rs : List Int} (p : P n B xs) (l : rs.length = n) (h : ∀ q ∈ xs.zip rs, 0 ≤ q.2) : P n B (runs (lowOf xs rs)) ∧ Le n (runs (lowOf xs rs)) xs := by
  have ll := low_len p.len l
  have r0 : ∀ i, i < n → 0 ≤ cat rs i := fun i hi => by
    have e : (xs.zip rs)[i]? = some (cat xs i, cat rs i) := by
      rw [List.getElem?_zip_eq_some]
      simp [cat, show i < xs.length by rw [p.len]; exact hi, show i < rs.length by omega]
    exact h _ (List.mem_iff_getElem?.mpr ⟨i, e⟩)
  have le : ∀ i, i < n → cat (runs (lowOf xs rs)) i ≤ cat xs i := fun i hi => by
    obtain ⟨j, hj, e⟩ := runs_ex (xs := lowOf xs rs) (i := i) (by omega)
    rw [e, low_at p.len l (by omega)]
    have h1 := r0 j (by omega)
    have h2 := p.le hj hi
    have h3 := (p.bd i hi).1
    split <;> omega
  refine ⟨⟨by rw [runs_len, ll], fun i hi => ⟨?_, Int.le_trans (le i hi) (p.bd i hi).2⟩, fun i hi => ?_⟩, le⟩
  · have h1 := runs_ge (xs := lowOf xs rs) (i := i) (j := i) (by omega) (Nat.le_refl i)
    rw [low_at p.len l hi] at h1
    refine Int.le_trans ?_ h1
    split <;> omega
  · obtain ⟨j, hj, e⟩ := runs_ex (xs := lowOf xs rs) (i := i) (by omega)
    rw [e]
    exact runs_ge (by omega) (by omega)
theorem lb_len (xs : List Int) : (lb xs).length = xs.length := by simp [lb]
theorem lb_at {xs : List Int} {s : Nat} (hs : s < xs.length) : cat (lb xs) s = mx ((List.range (xs.length - s)).map fun a => cat xs (a + s) - cat xs a) := by
  simp [lb, cat, hs]
theorem lb_ex {xs : List Int} {s : Nat} (hs : s < xs.length) : ∃ a, a + s < xs.length ∧ cat (lb xs) s = cat xs (a + s) - cat xs a := by
  rw [lb_at hs]
  obtain ⟨a, ha, e⟩ := List.mem_map.mp (mx_mem (xs := (List.range (xs.length - s)).map fun a => cat xs (a + s) - cat xs a) (fun z => by
    have := congrArg List.length z
    simp at this; omega))
  exact ⟨a, by have : a < xs.length - s := by simpa using ha
               omega, e.symm⟩
theorem lb_ge {xs : List Int} {s a : Nat} (h : a + s < xs.length) : cat xs (a + s) - cat xs a ≤ cat (lb xs) s := by
  rw [lb_at (by omega)]
  exact le_mx (List.mem_map.mpr ⟨a, by simp; omega, rfl⟩)
theorem lb_0 {xs : List Int} (h : 0 < xs.length) : cat (lb xs) 0 = 0 := by
  obtain ⟨a, ha, e⟩ := lb_ex (xs := xs) (s := 0) h
  rw [e]; simp
theorem lb_sub {xs : List Int} (a b : Nat) (h : a + b < xs.length) : cat (lb xs) (a + b) ≤ cat (lb xs) a + cat (lb xs) b := by
  obtain ⟨c, hc, e⟩ := lb_ex h
  rw [e]
  have h1 := lb_ge (xs := xs) (s := a) (a := c) (by omega)
  have h2 := lb_ge (xs := xs) (s := b) (a := c + a) (by omega)
  rw [show c + a + b = c + (a + b) by omega] at h2
  omega
/-- what is bounded below by the curve is so by the closed one -/
theorem lb_closed {n : Nat} {B : Int} {xs zs : List Int} (p : P n B xs) (lz : zs.length = n) (h1 : 1 ≤ n) (h : leB (lb zs) xs = true) : leB (lb zs) (closed xs) = true := by
  have ll : (lb zs).length = n := by rw [lb_len, lz]
  rw [leB_iff ll p.len] at h
  refine (leB_iff ll (by rw [closed_len, p.len])).mpr fun i hi => ?_
  exact closed_greatest (xs := xs) (by rw [lb_0 (by omega)]; omega) (fun a b hab => lb_sub a b (by rw [p.len] at hab; omega)) (fun j _ hj => h j (by rw [← p.len]; exact hj)) i (by rw [p.len]; exact hi)
theorem zip1 {n : Nat} {B : Int} {xs : List Int} (p : P n B xs) : ∀ q ∈ xs.zip (xs.drop 1), q.1 ≤ q.2 := up_iff.mpr fun i hi => p.up i (by rw [← p.len]; exact hi)
theorem runs_eq (xs rs : List Int) {m : Nat} (hm : m = min xs.length rs.length) :
    (List.map (fun y => D.int (mx (List.map (fun a : Int × Int => if a.fst - a.snd > 0 then a.fst - a.snd else 0) (List.take (y + 1) (xs.zip rs))))) (List.range m)) = (runs (lowOf xs rs)).map D.int := by
  subst hm
  unfold runs
  rw [List.map_map]
  have e : (lowOf xs rs).length = min xs.length rs.length := by simp [lowOf]
  rw [e]
  refine List.map_congr_left fun h _ => ?_
  simp only [Function.comp, lowOf, List.map_take]
theorem cls_mi {α : Type} (f : α → Int) (xs : List α) : Wk.cls (xs.map fun a => D.int (f a)) = true := by rw [map_int, cls_int]
theorem take_ne {n : Nat} {xs rs : List Int} (l : xs.length = n) (l' : rs.length = n) {y : Nat} (h : y < n) : List.take (y + 1) (xs.zip rs) ≠ [] := fun z => by
  have := congrArg List.length z
  rw [List.length_take, List.length_zip, List.length_nil] at this
  omega
theorem lb_curve {n : Nat} {B : Int} {zs : List Int} (p : P n B zs) (lz : zs.length = n) (h1 : 1 ≤ n) (h2 : n ≤ 60) (hB : B ≤ 1000000) : (lb zs).length ≤ 60 := by rw [lb_len, lz]; exact h2
theorem n20 (h4 : C 4 = cTwo conv) (h8 : C 8 = cLb) (h9 : C 9 = cClosed) (h12 : C 12 = cDraw) (h14 : C 14 = cIs 1) (h15 : C 15 = cCurveM) (h17 : C 17 = cLe) (h19 : C 19 = cClosedL) : ∀ ds Q Z, ds.length = 2 → Wk.frs ds = ds → cCR ds Q Z → wps (GG C k S) s__law_is_closed_right (entry N__law_is_closed_right ds) (endPost Q Z) := by
  rintro ds Q Z hl hf ⟨n, xs, rfl, ⟨n1, n2⟩, px, q⟩
  have cx := px.curve n1 (by omega) (by omega)
  have pt := px.closed n1
  have ct := pt.curve n1 (by omega) (by omega)
  have lx := px.len
  have lt := pt.len
  have t60 : (closed xs).length ≤ 60 := by omega
  have x60 : xs.length ≤ 60 := by omega
  (simp only [s__law_is_closed_right, N__law_is_closed_right, h4, h8, h9, h12, h14, h15, h17, h19, clos_eq _ _ cx, closL_eq _ _ cx, is_eq _ _ t60, two_eq _ _ ct ct rfl, clos_eq _ _ ct, le_eq _ _ t60, frs_int, eqD_cvs, eqOk_cv, cut1, cut_n, ← List.map_drop, ← List.map_take, max_mt, lx, lt, conv_cl px n1, closed_cl px n1, leB_cl px, cl_cv, v_var, v_int, v_bl, v_non, v_str, v_glo, v_bin, v_neg, v_cmp, v_chain, v_and, v_or, v_not, v_ite, v_tup, v_lst, v_dnew, v_idx, v_sl, v_rev, v_call, v_blt, v_isi, v_said, v_lc, vs_nil, vs_cons, vO_none, vO_some, vC_none, vC_some, va_one, va_cons, vo_one, vo_cons, w_asg, w_mov, w_lcs, w_par, w_par3, w_app, w_set, w_aug, w_ret, w_retL, w_retA, w_movA, w_retv, w_retN, w_ife, w_whl, w_fr, w_frL, w_expr, w_rse, w_pas, w_brk, w_cnt, ws_nil, ws_cons, restr, frzL, augW, optV_some, getV_some, intV_int, blV_bl, ownV_lst, entry, List.map_cons, List.map_nil, List.length_cons, List.length_nil, endPost, List.getElem?_cons_zero, List.getElem?_cons_succ, List.cons_append, List.nil_append, Wk.fr, Wk.frs, b_add, b_sub, b_mul, b_div, b_mod, b_pow, b_addT, b_addL, b_mulL, b_mulT, q_lt, q_le, q_gt, q_ge, q_eq, q_ne, q_isN, q_isnN, l_tup, l_lst, l_scr, r_tup, r_lst, a_lenT, a_lenL, a_abs, a_int, a_tupT, a_tupL, a_lstT, a_lstL, a_min2, a_max2, s_seqT, s_seqL, rng_m, rng2_m, s_enm, s_zipT, s_zipL, t_name, t_tupT, t_tupL, t_nil, t_cons, u_bl, u_int, u_tup, u_lst, isiD, ty_int_int, ty_int_bool, ty_int_str, ty_int_tuple, ty_int_list, ty_int_dict, ty_bool_int, ty_bool_bool, ty_bool_str, ty_bool_tuple, ty_bool_list, ty_bool_dict, ty_str_int, ty_str_bool, ty_str_str, ty_str_tuple, ty_str_list, ty_str_dict, ty_tuple_int, ty_tuple_bool, ty_tuple_str, ty_tuple_tuple, ty_tuple_list, ty_tuple_dict, ty_list_int, ty_list_bool, ty_list_str, ty_list_tuple, ty_list_list, ty_list_dict, ty_dict_int, ty_dict_bool, ty_dict_str, ty_dict_tuple, ty_dict_list, ty_dict_dict, Bool.not_true, Bool.not_false, Bool.or_false, Bool.false_or, Bool.or_true, Bool.true_or, List.set_cons_zero, List.set_cons_succ, wipeE, Nat.zero_add, Nat.reduceAdd, Nat.reduceSub, List.replicate_succ, List.replicate_zero, Option.bind_some, if_true, Int.toNat_natCast, ne0_1, ne0_2, ne0_3, ne0_4, true_and, and_true, Option.map_some, if_false, n_non, n_bl, n_int, n_str, n_tup, n_lst, Bool.false_eq_true, List.contains_cons, List.contains_nil, Nat.reduceBEq, BEq.rfl, decide_true, decide_false, andL, compW_K, compK_map, ite_KK, ite_PK, ite_KP, ite_PP, ite_some, ite_dint, ite_dbl, ck_opt, ck_opt0, fm_some, fm_if, fm_dec, ck_draw, ck_draw0, ix_tm, ix_lm, ix0, ix1, ix2, ix3, Int.toNat_sub, ← Int.natCast_add, Int.toNat_natCast_add_one, min_m, max_m, min_mc, max_mc, sum_m, all_m, any_m, zip_m, enm_m, frs_mapf, mc_pp, mc_draw, getI_nat, inb_nat, List.length_map, List.length_range, List.mem_range, List.length_zip, List.length_append, wfor_map, decide_eq_true_eq, reduceCtorEq, eqOk_intT, eqOk_blT, nc_one, nc_suc, nc_pre, nc_pre2, nc_sub, cast_sub1, cast_sub2, e_intN, e_blN, beq_iff_eq, Bool.and_true, Bool.true_and, Bool.and_false, Bool.false_and]; try simp only [s__law_is_closed_right, N__law_is_closed_right, h4, h8, h9, h12, h14, h15, h17, h19, clos_eq _ _ cx, closL_eq _ _ cx, is_eq _ _ t60, two_eq _ _ ct ct rfl, clos_eq _ _ ct, le_eq _ _ t60, frs_int, eqD_cvs, eqOk_cv, cut1, cut_n, ← List.map_drop, ← List.map_take, max_mt, lx, lt, conv_cl px n1, closed_cl px n1, leB_cl px, cl_cv, v_var, v_int, v_bl, v_non, v_str, v_glo, v_bin, v_neg, v_cmp, v_chain, v_and, v_or, v_not, v_ite, v_tup, v_lst, v_dnew, v_idx, v_sl, v_rev, v_call, v_blt, v_isi, v_said, v_lc, vs_nil, vs_cons, vO_none, vO_some, vC_none, vC_some, va_one, va_cons, vo_one, vo_cons, w_asg, w_mov, w_lcs, w_par, w_par3, w_app, w_set, w_aug, w_ret, w_retL, w_retA, w_movA, w_retv, w_retN, w_ife, w_whl, w_fr, w_frL, w_expr, w_rse, w_pas, w_brk, w_cnt, ws_nil, ws_cons, restr, frzL, augW, optV_some, getV_some, intV_int, blV_bl, ownV_lst, entry, List.map_cons, List.map_nil, List.length_cons, List.length_nil, endPost, List.getElem?_cons_zero, List.getElem?_cons_succ, List.cons_append, List.nil_append, Wk.fr, Wk.frs, b_add, b_sub, b_mul, b_div, b_mod, b_pow, b_addT, b_addL, b_mulL, b_mulT, q_lt, q_le, q_gt, q_ge, q_eq, q_ne, q_isN, q_isnN, l_tup, l_lst, l_scr, r_tup, r_lst, a_lenT, a_lenL, a_abs, a_int, a_tupT, a_tupL, a_lstT, a_lstL, a_min2, a_max2, s_seqT, s_seqL, rng_m, rng2_m, s_enm, s_zipT, s_zipL, t_name, t_tupT, t_tupL, t_nil, t_cons, u_bl, u_int, u_tup, u_lst, isiD, ty_int_int, ty_int_bool, ty_int_str, ty_int_tuple, ty_int_list, ty_int_dict, ty_bool_int, ty_bool_bool, ty_bool_str, ty_bool_tuple, ty_bool_list, ty_bool_dict, ty_str_int, ty_str_bool, ty_str_str, ty_str_tuple, ty_str_list, ty_str_dict, ty_tuple_int, ty_tuple_bool, ty_tuple_str, ty_tuple_tuple, ty_tuple_list, ty_tuple_dict, ty_list_int, ty_list_bool, ty_list_str, ty_list_tuple, ty_list_list, ty_list_dict, ty_dict_int, ty_dict_bool, ty_dict_str, ty_dict_tuple, ty_dict_list, ty_dict_dict, Bool.not_true, Bool.not_false, Bool.or_false, Bool.false_or, Bool.or_true, Bool.true_or, List.set_cons_zero, List.set_cons_succ, wipeE, Nat.zero_add, Nat.reduceAdd, Nat.reduceSub, List.replicate_succ, List.replicate_zero, Option.bind_some, if_true, Int.toNat_natCast, ne0_1, ne0_2, ne0_3, ne0_4, true_and, and_true, Option.map_some, if_false, n_non, n_bl, n_int, n_str, n_tup, n_lst, Bool.false_eq_true, List.contains_cons, List.contains_nil, Nat.reduceBEq, BEq.rfl, decide_true, decide_false, andL, compW_K, compK_map, ite_KK, ite_PK, ite_KP, ite_PP, ite_some, ite_dint, ite_dbl, ck_opt, ck_opt0, fm_some, fm_if, fm_dec, ck_draw, ck_draw0, ix_tm, ix_lm, ix0, ix1, ix2, ix3, Int.toNat_sub, ← Int.natCast_add, Int.toNat_natCast_add_one, min_m, max_m, min_mc, max_mc, sum_m, all_m, any_m, zip_m, enm_m, frs_mapf, mc_pp, mc_draw, getI_nat, inb_nat, List.length_map, List.length_range, List.mem_range, List.length_zip, List.length_append, wfor_map, decide_eq_true_eq, reduceCtorEq, eqOk_intT, eqOk_blT, nc_one, nc_suc, nc_pre, nc_pre2, nc_sub, cast_sub1, cast_sub2, e_intN, e_blN, beq_iff_eq, Bool.and_true, Bool.true_and, Bool.and_false, Bool.false_and])
  refine ⟨by simp [lt]; omega, ?_⟩
  have ez : ((closed xs).zip ((closed xs).drop 1)).all (fun p => decide (p.1 ≤ p.2)) = true := by
    rw [List.all_eq_true]
    exact fun q hq => by simpa using zip1 pt q hq
  rw [if_neg (by rw [ez]; simp)]
  refine ⟨⟨by omega, fun _ _ => by omega⟩, fun rs hr hp => ?_⟩
  obtain ⟨pl, hle⟩ := low_P px hr fun q hq => (hp q hq).1
  have cl := pl.curve n1 (by omega) (by omega)
  have plc := pl.closed n1
  have l60 : (closed (runs (lowOf xs rs))).length ≤ 60 := by rw [plc.len]; omega
  have lm : leB (closed (runs (lowOf xs rs))) (closed xs) = true := (leB_iff plc.len pt.len).mpr (closed_mono pl px n1 hle)
  rw [runs_eq xs rs (by rw [lx])]
  (simp only [hr, clos_eq _ _ cl, le_eq _ _ l60, lm, Nat.min_self, frs_int, curve_eq _ _ n2 (show (1 : Int) ≤ 5 ∧ (5 : Int) ≤ 9 by omega), v_var, v_int, v_bl, v_non, v_str, v_glo, v_bin, v_neg, v_cmp, v_chain, v_and, v_or, v_not, v_ite, v_tup, v_lst, v_dnew, v_idx, v_sl, v_rev, v_call, v_blt, v_isi, v_said, v_lc, vs_nil, vs_cons, vO_none, vO_some, vC_none, vC_some, va_one, va_cons, vo_one, vo_cons, w_asg, w_mov, w_lcs, w_par, w_par3, w_app, w_set, w_aug, w_ret, w_retL, w_retA, w_movA, w_retv, w_retN, w_ife, w_whl, w_fr, w_frL, w_expr, w_rse, w_pas, w_brk, w_cnt, ws_nil, ws_cons, restr, frzL, augW, optV_some, getV_some, intV_int, blV_bl, ownV_lst, entry, List.map_cons, List.map_nil, List.length_cons, List.length_nil, endPost, List.getElem?_cons_zero, List.getElem?_cons_succ, List.cons_append, List.nil_append, Wk.fr, Wk.frs, b_add, b_sub, b_mul, b_div, b_mod, b_pow, b_addT, b_addL, b_mulL, b_mulT, q_lt, q_le, q_gt, q_ge, q_eq, q_ne, q_isN, q_isnN, l_tup, l_lst, l_scr, r_tup, r_lst, a_lenT, a_lenL, a_abs, a_int, a_tupT, a_tupL, a_lstT, a_lstL, a_min2, a_max2, s_seqT, s_seqL, rng_m, rng2_m, s_enm, s_zipT, s_zipL, t_name, t_tupT, t_tupL, t_nil, t_cons, u_bl, u_int, u_tup, u_lst, isiD, ty_int_int, ty_int_bool, ty_int_str, ty_int_tuple, ty_int_list, ty_int_dict, ty_bool_int, ty_bool_bool, ty_bool_str, ty_bool_tuple, ty_bool_list, ty_bool_dict, ty_str_int, ty_str_bool, ty_str_str, ty_str_tuple, ty_str_list, ty_str_dict, ty_tuple_int, ty_tuple_bool, ty_tuple_str, ty_tuple_tuple, ty_tuple_list, ty_tuple_dict, ty_list_int, ty_list_bool, ty_list_str, ty_list_tuple, ty_list_list, ty_list_dict, ty_dict_int, ty_dict_bool, ty_dict_str, ty_dict_tuple, ty_dict_list, ty_dict_dict, Bool.not_true, Bool.not_false, Bool.or_false, Bool.false_or, Bool.or_true, Bool.true_or, List.set_cons_zero, List.set_cons_succ, wipeE, Nat.zero_add, Nat.reduceAdd, Nat.reduceSub, List.replicate_succ, List.replicate_zero, Option.bind_some, if_true, Int.toNat_natCast, ne0_1, ne0_2, ne0_3, ne0_4, true_and, and_true, Option.map_some, if_false, n_non, n_bl, n_int, n_str, n_tup, n_lst, Bool.false_eq_true, List.contains_cons, List.contains_nil, Nat.reduceBEq, BEq.rfl, decide_true, decide_false, andL, compW_K, compK_map, ite_KK, ite_PK, ite_KP, ite_PP, ite_some, ite_dint, ite_dbl, ck_opt, ck_opt0, fm_some, fm_if, fm_dec, ck_draw, ck_draw0, ix_tm, ix_lm, ix0, ix1, ix2, ix3, Int.toNat_sub, ← Int.natCast_add, Int.toNat_natCast_add_one, min_m, max_m, min_mc, max_mc, sum_m, all_m, any_m, zip_m, enm_m, frs_mapf, mc_pp, mc_draw, getI_nat, inb_nat, List.length_map, List.length_range, List.mem_range, List.length_zip, List.length_append, wfor_map, decide_eq_true_eq, reduceCtorEq, eqOk_intT, eqOk_blT, nc_one, nc_suc, nc_pre, nc_pre2, nc_sub, cast_sub1, cast_sub2, e_intN, e_blN, beq_iff_eq, Bool.and_true, Bool.true_and, Bool.and_false, Bool.false_and]; try simp only [hr, clos_eq _ _ cl, le_eq _ _ l60, lm, Nat.min_self, frs_int, curve_eq _ _ n2 (show (1 : Int) ≤ 5 ∧ (5 : Int) ≤ 9 by omega), v_var, v_int, v_bl, v_non, v_str, v_glo, v_bin, v_neg, v_cmp, v_chain, v_and, v_or, v_not, v_ite, v_tup, v_lst, v_dnew, v_idx, v_sl, v_rev, v_call, v_blt, v_isi, v_said, v_lc, vs_nil, vs_cons, vO_none, vO_some, vC_none, vC_some, va_one, va_cons, vo_one, vo_cons, w_asg, w_mov, w_lcs, w_par, w_par3, w_app, w_set, w_aug, w_ret, w_retL, w_retA, w_movA, w_retv, w_retN, w_ife, w_whl, w_fr, w_frL, w_expr, w_rse, w_pas, w_brk, w_cnt, ws_nil, ws_cons, restr, frzL, augW, optV_some, getV_some, intV_int, blV_bl, ownV_lst, entry, List.map_cons, List.map_nil, List.length_cons, List.length_nil, endPost, List.getElem?_cons_zero, List.getElem?_cons_succ, List.cons_append, List.nil_append, Wk.fr, Wk.frs, b_add, b_sub, b_mul, b_div, b_mod, b_pow, b_addT, b_addL, b_mulL, b_mulT, q_lt, q_le, q_gt, q_ge, q_eq, q_ne, q_isN, q_isnN, l_tup, l_lst, l_scr, r_tup, r_lst, a_lenT, a_lenL, a_abs, a_int, a_tupT, a_tupL, a_lstT, a_lstL, a_min2, a_max2, s_seqT, s_seqL, rng_m, rng2_m, s_enm, s_zipT, s_zipL, t_name, t_tupT, t_tupL, t_nil, t_cons, u_bl, u_int, u_tup, u_lst, isiD, ty_int_int, ty_int_bool, ty_int_str, ty_int_tuple, ty_int_list, ty_int_dict, ty_bool_int, ty_bool_bool, ty_bool_str, ty_bool_tuple, ty_bool_list, ty_bool_dict, ty_str_int, ty_str_bool, ty_str_str, ty_str_tuple, ty_str_list, ty_str_dict, ty_tuple_int, ty_tuple_bool, ty_tuple_str, ty_tuple_tuple, ty_tuple_list, ty_tuple_dict, ty_list_int, ty_list_bool, ty_list_str, ty_list_tuple, ty_list_list, ty_list_dict, ty_dict_int, ty_dict_bool, ty_dict_str, ty_dict_tuple, ty_dict_list, ty_dict_dict, Bool.not_true, Bool.not_false, Bool.or_false, Bool.false_or, Bool.or_true, Bool.true_or, List.set_cons_zero, List.set_cons_succ, wipeE, Nat.zero_add, Nat.reduceAdd, Nat.reduceSub, List.replicate_succ, List.replicate_zero, Option.bind_some, if_true, Int.toNat_natCast, ne0_1, ne0_2, ne0_3, ne0_4, true_and, and_true, Option.map_some, if_false, n_non, n_bl, n_int, n_str, n_tup, n_lst, Bool.false_eq_true, List.contains_cons, List.contains_nil, Nat.reduceBEq, BEq.rfl, decide_true, decide_false, andL, compW_K, compK_map, ite_KK, ite_PK, ite_KP, ite_PP, ite_some, ite_dint, ite_dbl, ck_opt, ck_opt0, fm_some, fm_if, fm_dec, ck_draw, ck_draw0, ix_tm, ix_lm, ix0, ix1, ix2, ix3, Int.toNat_sub, ← Int.natCast_add, Int.toNat_natCast_add_one, min_m, max_m, min_mc, max_mc, sum_m, all_m, any_m, zip_m, enm_m, frs_mapf, mc_pp, mc_draw, getI_nat, inb_nat, List.length_map, List.length_range, List.mem_range, List.length_zip, List.length_append, wfor_map, decide_eq_true_eq, reduceCtorEq, eqOk_intT, eqOk_blT, nc_one, nc_suc, nc_pre, nc_pre2, nc_sub, cast_sub1, cast_sub2, e_intN, e_blN, beq_iff_eq, Bool.and_true, Bool.true_and, Bool.and_false, Bool.false_and])
  refine ⟨⟨⟨⟨⟨⟨?_, ?_⟩, ?_⟩, ?_⟩, ?_⟩, ?_⟩, ?_⟩
  · rw [Wk.cl]; exact cls_mi _ _
  · omega
  · omega
  · omega
  · exact fun y hy => take_ne lx hr hy
  · exact cl_cv _
  · intro zs pz
    have cz := pz.curve n1 (by omega) (by omega)
    have z60 : (lb zs).length ≤ 60 := by rw [lb_len, pz.len]; omega
    (simp only [lb_eq _ _ cz, le_eq _ _ z60, cl_cv, frs_int, v_var, v_int, v_bl, v_non, v_str, v_glo, v_bin, v_neg, v_cmp, v_chain, v_and, v_or, v_not, v_ite, v_tup, v_lst, v_dnew, v_idx, v_sl, v_rev, v_call, v_blt, v_isi, v_said, v_lc, vs_nil, vs_cons, vO_none, vO_some, vC_none, vC_some, va_one, va_cons, vo_one, vo_cons, w_asg, w_mov, w_lcs, w_par, w_par3, w_app, w_set, w_aug, w_ret, w_retL, w_retA, w_movA, w_retv, w_retN, w_ife, w_whl, w_fr, w_frL, w_expr, w_rse, w_pas, w_brk, w_cnt, ws_nil, ws_cons, restr, frzL, augW, optV_some, getV_some, intV_int, blV_bl, ownV_lst, entry, List.map_cons, List.map_nil, List.length_cons, List.length_nil, endPost, List.getElem?_cons_zero, List.getElem?_cons_succ, List.cons_append, List.nil_append, Wk.fr, Wk.frs, b_add, b_sub, b_mul, b_div, b_mod, b_pow, b_addT, b_addL, b_mulL, b_mulT, q_lt, q_le, q_gt, q_ge, q_eq, q_ne, q_isN, q_isnN, l_tup, l_lst, l_scr, r_tup, r_lst, a_lenT, a_lenL, a_abs, a_int, a_tupT, a_tupL, a_lstT, a_lstL, a_min2, a_max2, s_seqT, s_seqL, rng_m, rng2_m, s_enm, s_zipT, s_zipL, t_name, t_tupT, t_tupL, t_nil, t_cons, u_bl, u_int, u_tup, u_lst, isiD, ty_int_int, ty_int_bool, ty_int_str, ty_int_tuple, ty_int_list, ty_int_dict, ty_bool_int, ty_bool_bool, ty_bool_str, ty_bool_tuple, ty_bool_list, ty_bool_dict, ty_str_int, ty_str_bool, ty_str_str, ty_str_tuple, ty_str_list, ty_str_dict, ty_tuple_int, ty_tuple_bool, ty_tuple_str, ty_tuple_tuple, ty_tuple_list, ty_tuple_dict, ty_list_int, ty_list_bool, ty_list_str, ty_list_tuple, ty_list_list, ty_list_dict, ty_dict_int, ty_dict_bool, ty_dict_str, ty_dict_tuple, ty_dict_list, ty_dict_dict, Bool.not_true, Bool.not_false, Bool.or_false, Bool.false_or, Bool.or_true, Bool.true_or, List.set_cons_zero, List.set_cons_succ, wipeE, Nat.zero_add, Nat.reduceAdd, Nat.reduceSub, List.replicate_succ, List.replicate_zero, Option.bind_some, if_true, Int.toNat_natCast, ne0_1, ne0_2, ne0_3, ne0_4, true_and, and_true, Option.map_some, if_false, n_non, n_bl, n_int, n_str, n_tup, n_lst, Bool.false_eq_true, List.contains_cons, List.contains_nil, Nat.reduceBEq, BEq.rfl, decide_true, decide_false, andL, compW_K, compK_map, ite_KK, ite_PK, ite_KP, ite_PP, ite_some, ite_dint, ite_dbl, ck_opt, ck_opt0, fm_some, fm_if, fm_dec, ck_draw, ck_draw0, ix_tm, ix_lm, ix0, ix1, ix2, ix3, Int.toNat_sub, ← Int.natCast_add, Int.toNat_natCast_add_one, min_m, max_m, min_mc, max_mc, sum_m, all_m, any_m, zip_m, enm_m, frs_mapf, mc_pp, mc_draw, getI_nat, inb_nat, List.length_map, List.length_range, List.mem_range, List.length_zip, List.length_append, wfor_map, decide_eq_true_eq, reduceCtorEq, eqOk_intT, eqOk_blT, nc_one, nc_suc, nc_pre, nc_pre2, nc_sub, cast_sub1, cast_sub2, e_intN, e_blN, beq_iff_eq, Bool.and_true, Bool.true_and, Bool.and_false, Bool.false_and]; try simp only [lb_eq _ _ cz, le_eq _ _ z60, cl_cv, frs_int, v_var, v_int, v_bl, v_non, v_str, v_glo, v_bin, v_neg, v_cmp, v_chain, v_and, v_or, v_not, v_ite, v_tup, v_lst, v_dnew, v_idx, v_sl, v_rev, v_call, v_blt, v_isi, v_said, v_lc, vs_nil, vs_cons, vO_none, vO_some, vC_none, vC_some, va_one, va_cons, vo_one, vo_cons, w_asg, w_mov, w_lcs, w_par, w_par3, w_app, w_set, w_aug, w_ret, w_retL, w_retA, w_movA, w_retv, w_retN, w_ife, w_whl, w_fr, w_frL, w_expr, w_rse, w_pas, w_brk, w_cnt, ws_nil, ws_cons, restr, frzL, augW, optV_some, getV_some, intV_int, blV_bl, ownV_lst, entry, List.map_cons, List.map_nil, List.length_cons, List.length_nil, endPost, List.getElem?_cons_zero, List.getElem?_cons_succ, List.cons_append, List.nil_append, Wk.fr, Wk.frs, b_add, b_sub, b_mul, b_div, b_mod, b_pow, b_addT, b_addL, b_mulL, b_mulT, q_lt, q_le, q_gt, q_ge, q_eq, q_ne, q_isN, q_isnN, l_tup, l_lst, l_scr, r_tup, r_lst, a_lenT, a_lenL, a_abs, a_int, a_tupT, a_tupL, a_lstT, a_lstL, a_min2, a_max2, s_seqT, s_seqL, rng_m, rng2_m, s_enm, s_zipT, s_zipL, t_name, t_tupT, t_tupL, t_nil, t_cons, u_bl, u_int, u_tup, u_lst, isiD, ty_int_int, ty_int_bool, ty_int_str, ty_int_tuple, ty_int_list, ty_int_dict, ty_bool_int, ty_bool_bool, ty_bool_str, ty_bool_tuple, ty_bool_list, ty_bool_dict, ty_str_int, ty_str_bool, ty_str_str, ty_str_tuple, ty_str_list, ty_str_dict, ty_tuple_int, ty_tuple_bool, ty_tuple_str, ty_tuple_tuple, ty_tuple_list, ty_tuple_dict, ty_list_int, ty_list_bool, ty_list_str, ty_list_tuple, ty_list_list, ty_list_dict, ty_dict_int, ty_dict_bool, ty_dict_str, ty_dict_tuple, ty_dict_list, ty_dict_dict, Bool.not_true, Bool.not_false, Bool.or_false, Bool.false_or, Bool.or_true, Bool.true_or, List.set_cons_zero, List.set_cons_succ, wipeE, Nat.zero_add, Nat.reduceAdd, Nat.reduceSub, List.replicate_succ, List.replicate_zero, Option.bind_some, if_true, Int.toNat_natCast, ne0_1, ne0_2, ne0_3, ne0_4, true_and, and_true, Option.map_some, if_false, n_non, n_bl, n_int, n_str, n_tup, n_lst, Bool.false_eq_true, List.contains_cons, List.contains_nil, Nat.reduceBEq, BEq.rfl, decide_true, decide_false, andL, compW_K, compK_map, ite_KK, ite_PK, ite_KP, ite_PP, ite_some, ite_dint, ite_dbl, ck_opt, ck_opt0, fm_some, fm_if, fm_dec, ck_draw, ck_draw0, ix_tm, ix_lm, ix0, ix1, ix2, ix3, Int.toNat_sub, ← Int.natCast_add, Int.toNat_natCast_add_one, min_m, max_m, min_mc, max_mc, sum_m, all_m, any_m, zip_m, enm_m, frs_mapf, mc_pp, mc_draw, getI_nat, inb_nat, List.length_map, List.length_range, List.mem_range, List.length_zip, List.length_append, wfor_map, decide_eq_true_eq, reduceCtorEq, eqOk_intT, eqOk_blT, nc_one, nc_suc, nc_pre, nc_pre2, nc_sub, cast_sub1, cast_sub2, e_intN, e_blN, beq_iff_eq, Bool.and_true, Bool.true_and, Bool.and_false, Bool.false_and])
    by_cases h : leB (lb zs) xs = true
    · simp only [h, lb_closed px pz.len n1 h, Bool.not_true, Bool.false_eq_true, if_false]
      exact q
    · rw [Bool.not_eq_true] at h
      simp only [h, Bool.not_false, if_true]
      exact q
end T71
end sec_L71c

section sec_L71d
set_option Elab.async false
set_option linter.all false
set_option maxRecDepth 100000
set_option maxHeartbeats 4000000
namespace T71
open PySem PySem.Spec Wk
variable (C : Nat → Con) (S : Nat → Except Err D → (D → Prop) → Prop) (k : Nat)
theorem q_nisB {Q : D → Prop} (a b : Bool) : cmpW .IsNot (.bl a) (.bl b) Q = Q (.bl (!decide (a = b))) := rfl
theorem Cl.sub {ys : List Int} (c : Cl ys) {a b : Nat} (h : a + b < ys.length) : cat ys (a + b) ≤ cat ys a + cat ys b := by
  have := closed_sub (xs := ys) h
  rw [c.2] at this
  exact this
theorem cl_conv {n : Nat} {B : Int} {ys : List Int} (c : Cl ys) (p : P n B ys) (h : 1 ≤ n) : conv ys ys = ys := by
  have := conv_cl p h
  rw [c.2] at this
  exact this
theorem cl_twice {n : Nat} {A B : Int} {xs ys : List Int} (c : Cl ys) (px : P n A xs) (py : P n B ys) (h : 1 ≤ n) : conv (conv xs ys) ys = conv xs ys := by
  rw [conv_assoc (by rw [px.len, py.len]) (by rw [px.len, py.len]), cl_conv c py h]
theorem Cl.bnd {n : Nat} {A B : Int} {xs ys : List Int} (c : Cl ys) (px : P n A xs) (py : P n B ys) : Bnd (conv xs ys) ys := fun a h ha hh => by
  rw [conv_len] at hh
  obtain ⟨b, hb, e⟩ := conv_ex (ys := ys) (show a < xs.length by omega)
  have h1 := conv_le (ys := ys) hh (show b ≤ h by omega)
  have h2 := c.sub (a := a - b) (b := h - a) (by rw [py.len]; rw [px.len] at hh; omega)
  rw [show a - b + (h - a) = h - b by omega] at h2
  omega
/-- bounded, below: below the shaped -/
theorem bnd_le {n : Nat} {A : Int} {xs ys zs : List Int} (px : P n A xs) (lz : zs.length = n) (h : Le n zs xs) (b : Bnd zs ys) : Le n zs (conv xs ys) := fun i hi => by
  obtain ⟨a, ha, e⟩ := conv_ex (ys := ys) (show i < xs.length by rw [px.len]; exact hi)
  rw [e]
  have h1 := h a (by omega)
  have h2 := b a i ha (by omega)
  omega
theorem bnd_iff {n : Nat} {A B : Int} {xs ys : List Int} (c : Cl ys) (px : P n A xs) (py : P n B ys) : Bnd xs ys ↔ conv xs ys = xs := by
  constructor
  · intro b
    refine cat_ext (conv_len _ _) fun i hi => Int.le_antisymm ?_ ?_
    · rw [conv_len, px.len] at hi
      exact conv_first px c.1 i hi
    · rw [conv_len, px.len] at hi
      exact bnd_le px px.len (fun i _ => Int.le_refl _) b i hi
  · intro e
    have := c.bnd px py
    rw [e] at this
    exact this
theorem bndB_eq {n : Nat} {A B : Int} {xs ys : List Int} (c : Cl ys) (px : P n A xs) (py : P n B ys) : bndB xs ys = decide (conv xs ys = xs) := by
  rw [Bool.eq_iff_iff, bndB_iff, bnd_iff c px py]
  simp
def cSR : Con := fun ds Q _ => ∃ n xs ys, ds = [.hand, cv xs, cv ys] ∧ (1 ≤ n ∧ n ≤ 12) ∧ P n 200 xs ∧ P n 200 ys ∧ Cl ys ∧ Q (.bl true)
theorem n21 (h7 : C 7 = cBnd) (h10 : C 10 = cShaped) (h12 : C 12 = cDraw) (h14 : C 14 = cIs 1) (h16 : C 16 = cOne conv) (h17 : C 17 = cLe) : ∀ ds Q Z, ds.length = 3 → Wk.frs ds = ds → cSR ds Q Z → wps (GG C k S) s__law_is_shaped_right (entry N__law_is_shaped_right ds) (endPost Q Z) := by
  rintro ds Q Z hl hf ⟨n, xs, ys, rfl, ⟨n1, n2⟩, px, py, hc, q⟩
  have cx := px.curve n1 (by omega) (by omega)
  have cy := py.curve n1 (by omega) (by omega)
  have pt := px.conv py
  have ct := pt.curve n1 (by omega) (by omega)
  have lx := px.len
  have ly := py.len
  have lt := pt.len
  have t60 : (conv xs ys).length ≤ 60 := by omega
  have x60 : xs.length ≤ 60 := by omega
  have lxy : xs.length = ys.length := by omega
  have lty : (conv xs ys).length = ys.length := by omega
  have bt : bndB (conv xs ys) ys = true := bndB_iff.mpr (hc.bnd px py)
  have lt1 : leB (conv xs ys) xs = true := (leB_iff lt lx).mpr (conv_first px hc.1)
  have x0 : 0 < xs.length := by omega
  have t0 : 0 < (conv xs ys).length := by omega
  have e0 : cat (conv xs ys) 0 = cat xs 0 := by rw [conv_0 x0, hc.1]; omega
  (simp only [s__law_is_shaped_right, N__law_is_shaped_right, h7, h10, h12, h14, h16, h17, shap_eq _ _ cx cy lxy hc, shap_eq _ _ ct cy lty hc, one_eq _ _ lxy x60, is_eq _ _ t60, bnd_eq _ _ ct cy lty, bnd_eq _ _ cx cy lxy, le_eq _ _ t60, bndB_eq hc px py, bt, lt1, q_nisB, frs_int, eqD_cvs, eqOk_cv, cut1, cut_n, ← List.map_drop, ← List.map_take, max_mt, lx, ly, lt, cl_twice hc px py n1, cl_cv, v_var, v_int, v_bl, v_non, v_str, v_glo, v_bin, v_neg, v_cmp, v_chain, v_and, v_or, v_not, v_ite, v_tup, v_lst, v_dnew, v_idx, v_sl, v_rev, v_call, v_blt, v_isi, v_said, v_lc, vs_nil, vs_cons, vO_none, vO_some, vC_none, vC_some, va_one, va_cons, vo_one, vo_cons, w_asg, w_mov, w_lcs, w_par, w_par3, w_app, w_set, w_aug, w_ret, w_retL, w_retA, w_movA, w_retv, w_retN, w_ife, w_whl, w_fr, w_frL, w_expr, w_rse, w_pas, w_brk, w_cnt, ws_nil, ws_cons, restr, frzL, augW, optV_some, getV_some, intV_int, blV_bl, ownV_lst, entry, List.map_cons, List.map_nil, List.length_cons, List.length_nil, endPost, List.getElem?_cons_zero, List.getElem?_cons_succ, List.cons_append, List.nil_append, Wk.fr, Wk.frs, b_add, b_sub, b_mul, b_div, b_mod, b_pow, b_addT, b_addL, b_mulL, b_mulT, q_lt, q_le, q_gt, q_ge, q_eq, q_ne, q_isN, q_isnN, l_tup, l_lst, l_scr, r_tup, r_lst, a_lenT, a_lenL, a_abs, a_int, a_tupT, a_tupL, a_lstT, a_lstL, a_min2, a_max2, s_seqT, s_seqL, rng_m, rng2_m, s_enm, s_zipT, s_zipL, t_name, t_tupT, t_tupL, t_nil, t_cons, u_bl, u_int, u_tup, u_lst, isiD, ty_int_int, ty_int_bool, ty_int_str, ty_int_tuple, ty_int_list, ty_int_dict, ty_bool_int, ty_bool_bool, ty_bool_str, ty_bool_tuple, ty_bool_list, ty_bool_dict, ty_str_int, ty_str_bool, ty_str_str, ty_str_tuple, ty_str_list, ty_str_dict, ty_tuple_int, ty_tuple_bool, ty_tuple_str, ty_tuple_tuple, ty_tuple_list, ty_tuple_dict, ty_list_int, ty_list_bool, ty_list_str, ty_list_tuple, ty_list_list, ty_list_dict, ty_dict_int, ty_dict_bool, ty_dict_str, ty_dict_tuple, ty_dict_list, ty_dict_dict, Bool.not_true, Bool.not_false, Bool.or_false, Bool.false_or, Bool.or_true, Bool.true_or, List.set_cons_zero, List.set_cons_succ, wipeE, Nat.zero_add, Nat.reduceAdd, Nat.reduceSub, List.replicate_succ, List.replicate_zero, Option.bind_some, if_true, Int.toNat_natCast, ne0_1, ne0_2, ne0_3, ne0_4, true_and, and_true, Option.map_some, if_false, n_non, n_bl, n_int, n_str, n_tup, n_lst, Bool.false_eq_true, List.contains_cons, List.contains_nil, Nat.reduceBEq, BEq.rfl, decide_true, decide_false, andL, compW_K, compK_map, ite_KK, ite_PK, ite_KP, ite_PP, ite_some, ite_dint, ite_dbl, ck_opt, ck_opt0, fm_some, fm_if, fm_dec, ck_draw, ck_draw0, ix_tm, ix_lm, ix0, ix1, ix2, ix3, Int.toNat_sub, ← Int.natCast_add, Int.toNat_natCast_add_one, min_m, max_m, min_mc, max_mc, sum_m, all_m, any_m, zip_m, enm_m, frs_mapf, mc_pp, mc_draw, getI_nat, inb_nat, List.length_map, List.length_range, List.mem_range, List.length_zip, List.length_append, wfor_map, decide_eq_true_eq, reduceCtorEq, eqOk_intT, eqOk_blT, nc_one, nc_suc, nc_pre, nc_pre2, nc_sub, cast_sub1, cast_sub2, e_intN, e_blN, beq_iff_eq, Bool.and_true, Bool.true_and, Bool.and_false, Bool.false_and]; try simp only [s__law_is_shaped_right, N__law_is_shaped_right, h7, h10, h12, h14, h16, h17, shap_eq _ _ cx cy lxy hc, shap_eq _ _ ct cy lty hc, one_eq _ _ lxy x60, is_eq _ _ t60, bnd_eq _ _ ct cy lty, bnd_eq _ _ cx cy lxy, le_eq _ _ t60, bndB_eq hc px py, bt, lt1, q_nisB, frs_int, eqD_cvs, eqOk_cv, cut1, cut_n, ← List.map_drop, ← List.map_take, max_mt, lx, ly, lt, cl_twice hc px py n1, cl_cv, v_var, v_int, v_bl, v_non, v_str, v_glo, v_bin, v_neg, v_cmp, v_chain, v_and, v_or, v_not, v_ite, v_tup, v_lst, v_dnew, v_idx, v_sl, v_rev, v_call, v_blt, v_isi, v_said, v_lc, vs_nil, vs_cons, vO_none, vO_some, vC_none, vC_some, va_one, va_cons, vo_one, vo_cons, w_asg, w_mov, w_lcs, w_par, w_par3, w_app, w_set, w_aug, w_ret, w_retL, w_retA, w_movA, w_retv, w_retN, w_ife, w_whl, w_fr, w_frL, w_expr, w_rse, w_pas, w_brk, w_cnt, ws_nil, ws_cons, restr, frzL, augW, optV_some, getV_some, intV_int, blV_bl, ownV_lst, entry, List.map_cons, List.map_nil, List.length_cons, List.length_nil, endPost, List.getElem?_cons_zero, List.getElem?_cons_succ, List.cons_append, List.nil_append, Wk.fr, Wk.frs, b_add, b_sub, b_mul, b_div, b_mod, b_pow, b_addT, b_addL, b_mulL, b_mulT, q_lt, q_le, q_gt, q_ge, q_eq, q_ne, q_isN, q_isnN, l_tup, l_lst, l_scr, r_tup, r_lst, a_lenT, a_lenL, a_abs, a_int, a_tupT, a_tupL, a_lstT, a_lstL, a_min2, a_max2, s_seqT, s_seqL, rng_m, rng2_m, s_enm, s_zipT, s_zipL, t_name, t_tupT, t_tupL, t_nil, t_cons, u_bl, u_int, u_tup, u_lst, isiD, ty_int_int, ty_int_bool, ty_int_str, ty_int_tuple, ty_int_list, ty_int_dict, ty_bool_int, ty_bool_bool, ty_bool_str, ty_bool_tuple, ty_bool_list, ty_bool_dict, ty_str_int, ty_str_bool, ty_str_str, ty_str_tuple, ty_str_list, ty_str_dict, ty_tuple_int, ty_tuple_bool, ty_tuple_str, ty_tuple_tuple, ty_tuple_list, ty_tuple_dict, ty_list_int, ty_list_bool, ty_list_str, ty_list_tuple, ty_list_list, ty_list_dict, ty_dict_int, ty_dict_bool, ty_dict_str, ty_dict_tuple, ty_dict_list, ty_dict_dict, Bool.not_true, Bool.not_false, Bool.or_false, Bool.false_or, Bool.or_true, Bool.true_or, List.set_cons_zero, List.set_cons_succ, wipeE, Nat.zero_add, Nat.reduceAdd, Nat.reduceSub, List.replicate_succ, List.replicate_zero, Option.bind_some, if_true, Int.toNat_natCast, ne0_1, ne0_2, ne0_3, ne0_4, true_and, and_true, Option.map_some, if_false, n_non, n_bl, n_int, n_str, n_tup, n_lst, Bool.false_eq_true, List.contains_cons, List.contains_nil, Nat.reduceBEq, BEq.rfl, decide_true, decide_false, andL, compW_K, compK_map, ite_KK, ite_PK, ite_KP, ite_PP, ite_some, ite_dint, ite_dbl, ck_opt, ck_opt0, fm_some, fm_if, fm_dec, ck_draw, ck_draw0, ix_tm, ix_lm, ix0, ix1, ix2, ix3, Int.toNat_sub, ← Int.natCast_add, Int.toNat_natCast_add_one, min_m, max_m, min_mc, max_mc, sum_m, all_m, any_m, zip_m, enm_m, frs_mapf, mc_pp, mc_draw, getI_nat, inb_nat, List.length_map, List.length_range, List.mem_range, List.length_zip, List.length_append, wfor_map, decide_eq_true_eq, reduceCtorEq, eqOk_intT, eqOk_blT, nc_one, nc_suc, nc_pre, nc_pre2, nc_sub, cast_sub1, cast_sub2, e_intN, e_blN, beq_iff_eq, Bool.and_true, Bool.true_and, Bool.and_false, Bool.false_and])
  refine ⟨by decide, wfor_rng (fun i e => ∃ z4 z5 z6 z7, e = [some .hand, some (cv xs), some (cv ys), some (cv (conv xs ys)), z4, z5, z6, z7]) ⟨_, _, _, _, rfl⟩ ?_ ?_⟩
  · rintro e ⟨z4, z5, z6, z7, rfl⟩
    (simp only [cv0 x0, cv0 t0, e0, v_var, v_int, v_bl, v_non, v_str, v_glo, v_bin, v_neg, v_cmp, v_chain, v_and, v_or, v_not, v_ite, v_tup, v_lst, v_dnew, v_idx, v_sl, v_rev, v_call, v_blt, v_isi, v_said, v_lc, vs_nil, vs_cons, vO_none, vO_some, vC_none, vC_some, va_one, va_cons, vo_one, vo_cons, w_asg, w_mov, w_lcs, w_par, w_par3, w_app, w_set, w_aug, w_ret, w_retL, w_retA, w_movA, w_retv, w_retN, w_ife, w_whl, w_fr, w_frL, w_expr, w_rse, w_pas, w_brk, w_cnt, ws_nil, ws_cons, restr, frzL, augW, optV_some, getV_some, intV_int, blV_bl, ownV_lst, entry, List.map_cons, List.map_nil, List.length_cons, List.length_nil, endPost, List.getElem?_cons_zero, List.getElem?_cons_succ, List.cons_append, List.nil_append, Wk.fr, Wk.frs, b_add, b_sub, b_mul, b_div, b_mod, b_pow, b_addT, b_addL, b_mulL, b_mulT, q_lt, q_le, q_gt, q_ge, q_eq, q_ne, q_isN, q_isnN, l_tup, l_lst, l_scr, r_tup, r_lst, a_lenT, a_lenL, a_abs, a_int, a_tupT, a_tupL, a_lstT, a_lstL, a_min2, a_max2, s_seqT, s_seqL, rng_m, rng2_m, s_enm, s_zipT, s_zipL, t_name, t_tupT, t_tupL, t_nil, t_cons, u_bl, u_int, u_tup, u_lst, isiD, ty_int_int, ty_int_bool, ty_int_str, ty_int_tuple, ty_int_list, ty_int_dict, ty_bool_int, ty_bool_bool, ty_bool_str, ty_bool_tuple, ty_bool_list, ty_bool_dict, ty_str_int, ty_str_bool, ty_str_str, ty_str_tuple, ty_str_list, ty_str_dict, ty_tuple_int, ty_tuple_bool, ty_tuple_str, ty_tuple_tuple, ty_tuple_list, ty_tuple_dict, ty_list_int, ty_list_bool, ty_list_str, ty_list_tuple, ty_list_list, ty_list_dict, ty_dict_int, ty_dict_bool, ty_dict_str, ty_dict_tuple, ty_dict_list, ty_dict_dict, Bool.not_true, Bool.not_false, Bool.or_false, Bool.false_or, Bool.or_true, Bool.true_or, List.set_cons_zero, List.set_cons_succ, wipeE, Nat.zero_add, Nat.reduceAdd, Nat.reduceSub, List.replicate_succ, List.replicate_zero, Option.bind_some, if_true, Int.toNat_natCast, ne0_1, ne0_2, ne0_3, ne0_4, true_and, and_true, Option.map_some, if_false, n_non, n_bl, n_int, n_str, n_tup, n_lst, Bool.false_eq_true, List.contains_cons, List.contains_nil, Nat.reduceBEq, BEq.rfl, decide_true, decide_false, andL, compW_K, compK_map, ite_KK, ite_PK, ite_KP, ite_PP, ite_some, ite_dint, ite_dbl, ck_opt, ck_opt0, fm_some, fm_if, fm_dec, ck_draw, ck_draw0, ix_tm, ix_lm, ix0, ix1, ix2, ix3, Int.toNat_sub, ← Int.natCast_add, Int.toNat_natCast_add_one, min_m, max_m, min_mc, max_mc, sum_m, all_m, any_m, zip_m, enm_m, frs_mapf, mc_pp, mc_draw, getI_nat, inb_nat, List.length_map, List.length_range, List.mem_range, List.length_zip, List.length_append, wfor_map, decide_eq_true_eq, reduceCtorEq, eqOk_intT, eqOk_blT, nc_one, nc_suc, nc_pre, nc_pre2, nc_sub, cast_sub1, cast_sub2, e_intN, e_blN, beq_iff_eq, Bool.and_true, Bool.true_and, Bool.and_false, Bool.false_and]; try simp only [cv0 x0, cv0 t0, e0, v_var, v_int, v_bl, v_non, v_str, v_glo, v_bin, v_neg, v_cmp, v_chain, v_and, v_or, v_not, v_ite, v_tup, v_lst, v_dnew, v_idx, v_sl, v_rev, v_call, v_blt, v_isi, v_said, v_lc, vs_nil, vs_cons, vO_none, vO_some, vC_none, vC_some, va_one, va_cons, vo_one, vo_cons, w_asg, w_mov, w_lcs, w_par, w_par3, w_app, w_set, w_aug, w_ret, w_retL, w_retA, w_movA, w_retv, w_retN, w_ife, w_whl, w_fr, w_frL, w_expr, w_rse, w_pas, w_brk, w_cnt, ws_nil, ws_cons, restr, frzL, augW, optV_some, getV_some, intV_int, blV_bl, ownV_lst, entry, List.map_cons, List.map_nil, List.length_cons, List.length_nil, endPost, List.getElem?_cons_zero, List.getElem?_cons_succ, List.cons_append, List.nil_append, Wk.fr, Wk.frs, b_add, b_sub, b_mul, b_div, b_mod, b_pow, b_addT, b_addL, b_mulL, b_mulT, q_lt, q_le, q_gt, q_ge, q_eq, q_ne, q_isN, q_isnN, l_tup, l_lst, l_scr, r_tup, r_lst, a_lenT, a_lenL, a_abs, a_int, a_tupT, a_tupL, a_lstT, a_lstL, a_min2, a_max2, s_seqT, s_seqL, rng_m, rng2_m, s_enm, s_zipT, s_zipL, t_name, t_tupT, t_tupL, t_nil, t_cons, u_bl, u_int, u_tup, u_lst, isiD, ty_int_int, ty_int_bool, ty_int_str, ty_int_tuple, ty_int_list, ty_int_dict, ty_bool_int, ty_bool_bool, ty_bool_str, ty_bool_tuple, ty_bool_list, ty_bool_dict, ty_str_int, ty_str_bool, ty_str_str, ty_str_tuple, ty_str_list, ty_str_dict, ty_tuple_int, ty_tuple_bool, ty_tuple_str, ty_tuple_tuple, ty_tuple_list, ty_tuple_dict, ty_list_int, ty_list_bool, ty_list_str, ty_list_tuple, ty_list_list, ty_list_dict, ty_dict_int, ty_dict_bool, ty_dict_str, ty_dict_tuple, ty_dict_list, ty_dict_dict, Bool.not_true, Bool.not_false, Bool.or_false, Bool.false_or, Bool.or_true, Bool.true_or, List.set_cons_zero, List.set_cons_succ, wipeE, Nat.zero_add, Nat.reduceAdd, Nat.reduceSub, List.replicate_succ, List.replicate_zero, Option.bind_some, if_true, Int.toNat_natCast, ne0_1, ne0_2, ne0_3, ne0_4, true_and, and_true, Option.map_some, if_false, n_non, n_bl, n_int, n_str, n_tup, n_lst, Bool.false_eq_true, List.contains_cons, List.contains_nil, Nat.reduceBEq, BEq.rfl, decide_true, decide_false, andL, compW_K, compK_map, ite_KK, ite_PK, ite_KP, ite_PP, ite_some, ite_dint, ite_dbl, ck_opt, ck_opt0, fm_some, fm_if, fm_dec, ck_draw, ck_draw0, ix_tm, ix_lm, ix0, ix1, ix2, ix3, Int.toNat_sub, ← Int.natCast_add, Int.toNat_natCast_add_one, min_m, max_m, min_mc, max_mc, sum_m, all_m, any_m, zip_m, enm_m, frs_mapf, mc_pp, mc_draw, getI_nat, inb_nat, List.length_map, List.length_range, List.mem_range, List.length_zip, List.length_append, wfor_map, decide_eq_true_eq, reduceCtorEq, eqOk_intT, eqOk_blT, nc_one, nc_suc, nc_pre, nc_pre2, nc_sub, cast_sub1, cast_sub2, e_intN, e_blN, beq_iff_eq, Bool.and_true, Bool.true_and, Bool.and_false, Bool.false_and])
    exact q
  · rintro i hi e ⟨z4, z5, z6, z7, rfl⟩ N hN
    unfold turnW
    (simp only [h7, h10, h12, h17, cut_n, ← List.map_take, max_mt, lx, v_var, v_int, v_bl, v_non, v_str, v_glo, v_bin, v_neg, v_cmp, v_chain, v_and, v_or, v_not, v_ite, v_tup, v_lst, v_dnew, v_idx, v_sl, v_rev, v_call, v_blt, v_isi, v_said, v_lc, vs_nil, vs_cons, vO_none, vO_some, vC_none, vC_some, va_one, va_cons, vo_one, vo_cons, w_asg, w_mov, w_lcs, w_par, w_par3, w_app, w_set, w_aug, w_ret, w_retL, w_retA, w_movA, w_retv, w_retN, w_ife, w_whl, w_fr, w_frL, w_expr, w_rse, w_pas, w_brk, w_cnt, ws_nil, ws_cons, restr, frzL, augW, optV_some, getV_some, intV_int, blV_bl, ownV_lst, entry, List.map_cons, List.map_nil, List.length_cons, List.length_nil, endPost, List.getElem?_cons_zero, List.getElem?_cons_succ, List.cons_append, List.nil_append, Wk.fr, Wk.frs, b_add, b_sub, b_mul, b_div, b_mod, b_pow, b_addT, b_addL, b_mulL, b_mulT, q_lt, q_le, q_gt, q_ge, q_eq, q_ne, q_isN, q_isnN, l_tup, l_lst, l_scr, r_tup, r_lst, a_lenT, a_lenL, a_abs, a_int, a_tupT, a_tupL, a_lstT, a_lstL, a_min2, a_max2, s_seqT, s_seqL, rng_m, rng2_m, s_enm, s_zipT, s_zipL, t_name, t_tupT, t_tupL, t_nil, t_cons, u_bl, u_int, u_tup, u_lst, isiD, ty_int_int, ty_int_bool, ty_int_str, ty_int_tuple, ty_int_list, ty_int_dict, ty_bool_int, ty_bool_bool, ty_bool_str, ty_bool_tuple, ty_bool_list, ty_bool_dict, ty_str_int, ty_str_bool, ty_str_str, ty_str_tuple, ty_str_list, ty_str_dict, ty_tuple_int, ty_tuple_bool, ty_tuple_str, ty_tuple_tuple, ty_tuple_list, ty_tuple_dict, ty_list_int, ty_list_bool, ty_list_str, ty_list_tuple, ty_list_list, ty_list_dict, ty_dict_int, ty_dict_bool, ty_dict_str, ty_dict_tuple, ty_dict_list, ty_dict_dict, Bool.not_true, Bool.not_false, Bool.or_false, Bool.false_or, Bool.or_true, Bool.true_or, List.set_cons_zero, List.set_cons_succ, wipeE, Nat.zero_add, Nat.reduceAdd, Nat.reduceSub, List.replicate_succ, List.replicate_zero, Option.bind_some, if_true, Int.toNat_natCast, ne0_1, ne0_2, ne0_3, ne0_4, true_and, and_true, Option.map_some, if_false, n_non, n_bl, n_int, n_str, n_tup, n_lst, Bool.false_eq_true, List.contains_cons, List.contains_nil, Nat.reduceBEq, BEq.rfl, decide_true, decide_false, andL, compW_K, compK_map, ite_KK, ite_PK, ite_KP, ite_PP, ite_some, ite_dint, ite_dbl, ck_opt, ck_opt0, fm_some, fm_if, fm_dec, ck_draw, ck_draw0, ix_tm, ix_lm, ix0, ix1, ix2, ix3, Int.toNat_sub, ← Int.natCast_add, Int.toNat_natCast_add_one, min_m, max_m, min_mc, max_mc, sum_m, all_m, any_m, zip_m, enm_m, frs_mapf, mc_pp, mc_draw, getI_nat, inb_nat, List.length_map, List.length_range, List.mem_range, List.length_zip, List.length_append, wfor_map, decide_eq_true_eq, reduceCtorEq, eqOk_intT, eqOk_blT, nc_one, nc_suc, nc_pre, nc_pre2, nc_sub, cast_sub1, cast_sub2, e_intN, e_blN, beq_iff_eq, Bool.and_true, Bool.true_and, Bool.and_false, Bool.false_and]; try simp only [h7, h10, h12, h17, cut_n, ← List.map_take, max_mt, lx, v_var, v_int, v_bl, v_non, v_str, v_glo, v_bin, v_neg, v_cmp, v_chain, v_and, v_or, v_not, v_ite, v_tup, v_lst, v_dnew, v_idx, v_sl, v_rev, v_call, v_blt, v_isi, v_said, v_lc, vs_nil, vs_cons, vO_none, vO_some, vC_none, vC_some, va_one, va_cons, vo_one, vo_cons, w_asg, w_mov, w_lcs, w_par, w_par3, w_app, w_set, w_aug, w_ret, w_retL, w_retA, w_movA, w_retv, w_retN, w_ife, w_whl, w_fr, w_frL, w_expr, w_rse, w_pas, w_brk, w_cnt, ws_nil, ws_cons, restr, frzL, augW, optV_some, getV_some, intV_int, blV_bl, ownV_lst, entry, List.map_cons, List.map_nil, List.length_cons, List.length_nil, endPost, List.getElem?_cons_zero, List.getElem?_cons_succ, List.cons_append, List.nil_append, Wk.fr, Wk.frs, b_add, b_sub, b_mul, b_div, b_mod, b_pow, b_addT, b_addL, b_mulL, b_mulT, q_lt, q_le, q_gt, q_ge, q_eq, q_ne, q_isN, q_isnN, l_tup, l_lst, l_scr, r_tup, r_lst, a_lenT, a_lenL, a_abs, a_int, a_tupT, a_tupL, a_lstT, a_lstL, a_min2, a_max2, s_seqT, s_seqL, rng_m, rng2_m, s_enm, s_zipT, s_zipL, t_name, t_tupT, t_tupL, t_nil, t_cons, u_bl, u_int, u_tup, u_lst, isiD, ty_int_int, ty_int_bool, ty_int_str, ty_int_tuple, ty_int_list, ty_int_dict, ty_bool_int, ty_bool_bool, ty_bool_str, ty_bool_tuple, ty_bool_list, ty_bool_dict, ty_str_int, ty_str_bool, ty_str_str, ty_str_tuple, ty_str_list, ty_str_dict, ty_tuple_int, ty_tuple_bool, ty_tuple_str, ty_tuple_tuple, ty_tuple_list, ty_tuple_dict, ty_list_int, ty_list_bool, ty_list_str, ty_list_tuple, ty_list_list, ty_list_dict, ty_dict_int, ty_dict_bool, ty_dict_str, ty_dict_tuple, ty_dict_list, ty_dict_dict, Bool.not_true, Bool.not_false, Bool.or_false, Bool.false_or, Bool.or_true, Bool.true_or, List.set_cons_zero, List.set_cons_succ, wipeE, Nat.zero_add, Nat.reduceAdd, Nat.reduceSub, List.replicate_succ, List.replicate_zero, Option.bind_some, if_true, Int.toNat_natCast, ne0_1, ne0_2, ne0_3, ne0_4, true_and, and_true, Option.map_some, if_false, n_non, n_bl, n_int, n_str, n_tup, n_lst, Bool.false_eq_true, List.contains_cons, List.contains_nil, Nat.reduceBEq, BEq.rfl, decide_true, decide_false, andL, compW_K, compK_map, ite_KK, ite_PK, ite_KP, ite_PP, ite_some, ite_dint, ite_dbl, ck_opt, ck_opt0, fm_some, fm_if, fm_dec, ck_draw, ck_draw0, ix_tm, ix_lm, ix0, ix1, ix2, ix3, Int.toNat_sub, ← Int.natCast_add, Int.toNat_natCast_add_one, min_m, max_m, min_mc, max_mc, sum_m, all_m, any_m, zip_m, enm_m, frs_mapf, mc_pp, mc_draw, getI_nat, inb_nat, List.length_map, List.length_range, List.mem_range, List.length_zip, List.length_append, wfor_map, decide_eq_true_eq, reduceCtorEq, eqOk_intT, eqOk_blT, nc_one, nc_suc, nc_pre, nc_pre2, nc_sub, cast_sub1, cast_sub2, e_intN, e_blN, beq_iff_eq, Bool.and_true, Bool.true_and, Bool.and_false, Bool.false_and])
    refine ⟨⟨by omega, fun _ _ => by omega⟩, fun rs hr hp => ?_⟩
    obtain ⟨pl, hle⟩ := low_P px hr fun q hq => (hp q hq).1
    rw [runs_eq xs rs (by rw [lx])]
    have cl := pl.curve n1 (by omega) (by omega)
    have ll := pl.len
    have pc := pl.conv py
    have l60 : (conv (runs (lowOf xs rs)) ys).length ≤ 60 := by rw [pc.len]; omega
    have l61 : (runs (lowOf xs rs)).length ≤ 60 := by omega
    have lly : (runs (lowOf xs rs)).length = ys.length := by omega
    have lm : leB (conv (runs (lowOf xs rs)) ys) (conv xs ys) = true := (leB_iff pc.len pt.len).mpr (conv_mono ll lx hle)
    (simp only [hr, bnd_eq _ _ cl cy lly, shap_eq _ _ cl cy lly hc, le_eq _ _ l60, le_eq _ _ l61, lm, Nat.min_self, frs_int, v_var, v_int, v_bl, v_non, v_str, v_glo, v_bin, v_neg, v_cmp, v_chain, v_and, v_or, v_not, v_ite, v_tup, v_lst, v_dnew, v_idx, v_sl, v_rev, v_call, v_blt, v_isi, v_said, v_lc, vs_nil, vs_cons, vO_none, vO_some, vC_none, vC_some, va_one, va_cons, vo_one, vo_cons, w_asg, w_mov, w_lcs, w_par, w_par3, w_app, w_set, w_aug, w_ret, w_retL, w_retA, w_movA, w_retv, w_retN, w_ife, w_whl, w_fr, w_frL, w_expr, w_rse, w_pas, w_brk, w_cnt, ws_nil, ws_cons, restr, frzL, augW, optV_some, getV_some, intV_int, blV_bl, ownV_lst, entry, List.map_cons, List.map_nil, List.length_cons, List.length_nil, endPost, List.getElem?_cons_zero, List.getElem?_cons_succ, List.cons_append, List.nil_append, Wk.fr, Wk.frs, b_add, b_sub, b_mul, b_div, b_mod, b_pow, b_addT, b_addL, b_mulL, b_mulT, q_lt, q_le, q_gt, q_ge, q_eq, q_ne, q_isN, q_isnN, l_tup, l_lst, l_scr, r_tup, r_lst, a_lenT, a_lenL, a_abs, a_int, a_tupT, a_tupL, a_lstT, a_lstL, a_min2, a_max2, s_seqT, s_seqL, rng_m, rng2_m, s_enm, s_zipT, s_zipL, t_name, t_tupT, t_tupL, t_nil, t_cons, u_bl, u_int, u_tup, u_lst, isiD, ty_int_int, ty_int_bool, ty_int_str, ty_int_tuple, ty_int_list, ty_int_dict, ty_bool_int, ty_bool_bool, ty_bool_str, ty_bool_tuple, ty_bool_list, ty_bool_dict, ty_str_int, ty_str_bool, ty_str_str, ty_str_tuple, ty_str_list, ty_str_dict, ty_tuple_int, ty_tuple_bool, ty_tuple_str, ty_tuple_tuple, ty_tuple_list, ty_tuple_dict, ty_list_int, ty_list_bool, ty_list_str, ty_list_tuple, ty_list_list, ty_list_dict, ty_dict_int, ty_dict_bool, ty_dict_str, ty_dict_tuple, ty_dict_list, ty_dict_dict, Bool.not_true, Bool.not_false, Bool.or_false, Bool.false_or, Bool.or_true, Bool.true_or, List.set_cons_zero, List.set_cons_succ, wipeE, Nat.zero_add, Nat.reduceAdd, Nat.reduceSub, List.replicate_succ, List.replicate_zero, Option.bind_some, if_true, Int.toNat_natCast, ne0_1, ne0_2, ne0_3, ne0_4, true_and, and_true, Option.map_some, if_false, n_non, n_bl, n_int, n_str, n_tup, n_lst, Bool.false_eq_true, List.contains_cons, List.contains_nil, Nat.reduceBEq, BEq.rfl, decide_true, decide_false, andL, compW_K, compK_map, ite_KK, ite_PK, ite_KP, ite_PP, ite_some, ite_dint, ite_dbl, ck_opt, ck_opt0, fm_some, fm_if, fm_dec, ck_draw, ck_draw0, ix_tm, ix_lm, ix0, ix1, ix2, ix3, Int.toNat_sub, ← Int.natCast_add, Int.toNat_natCast_add_one, min_m, max_m, min_mc, max_mc, sum_m, all_m, any_m, zip_m, enm_m, frs_mapf, mc_pp, mc_draw, getI_nat, inb_nat, List.length_map, List.length_range, List.mem_range, List.length_zip, List.length_append, wfor_map, decide_eq_true_eq, reduceCtorEq, eqOk_intT, eqOk_blT, nc_one, nc_suc, nc_pre, nc_pre2, nc_sub, cast_sub1, cast_sub2, e_intN, e_blN, beq_iff_eq, Bool.and_true, Bool.true_and, Bool.and_false, Bool.false_and]; try simp only [hr, bnd_eq _ _ cl cy lly, shap_eq _ _ cl cy lly hc, le_eq _ _ l60, le_eq _ _ l61, lm, Nat.min_self, frs_int, v_var, v_int, v_bl, v_non, v_str, v_glo, v_bin, v_neg, v_cmp, v_chain, v_and, v_or, v_not, v_ite, v_tup, v_lst, v_dnew, v_idx, v_sl, v_rev, v_call, v_blt, v_isi, v_said, v_lc, vs_nil, vs_cons, vO_none, vO_some, vC_none, vC_some, va_one, va_cons, vo_one, vo_cons, w_asg, w_mov, w_lcs, w_par, w_par3, w_app, w_set, w_aug, w_ret, w_retL, w_retA, w_movA, w_retv, w_retN, w_ife, w_whl, w_fr, w_frL, w_expr, w_rse, w_pas, w_brk, w_cnt, ws_nil, ws_cons, restr, frzL, augW, optV_some, getV_some, intV_int, blV_bl, ownV_lst, entry, List.map_cons, List.map_nil, List.length_cons, List.length_nil, endPost, List.getElem?_cons_zero, List.getElem?_cons_succ, List.cons_append, List.nil_append, Wk.fr, Wk.frs, b_add, b_sub, b_mul, b_div, b_mod, b_pow, b_addT, b_addL, b_mulL, b_mulT, q_lt, q_le, q_gt, q_ge, q_eq, q_ne, q_isN, q_isnN, l_tup, l_lst, l_scr, r_tup, r_lst, a_lenT, a_lenL, a_abs, a_int, a_tupT, a_tupL, a_lstT, a_lstL, a_min2, a_max2, s_seqT, s_seqL, rng_m, rng2_m, s_enm, s_zipT, s_zipL, t_name, t_tupT, t_tupL, t_nil, t_cons, u_bl, u_int, u_tup, u_lst, isiD, ty_int_int, ty_int_bool, ty_int_str, ty_int_tuple, ty_int_list, ty_int_dict, ty_bool_int, ty_bool_bool, ty_bool_str, ty_bool_tuple, ty_bool_list, ty_bool_dict, ty_str_int, ty_str_bool, ty_str_str, ty_str_tuple, ty_str_list, ty_str_dict, ty_tuple_int, ty_tuple_bool, ty_tuple_str, ty_tuple_tuple, ty_tuple_list, ty_tuple_dict, ty_list_int, ty_list_bool, ty_list_str, ty_list_tuple, ty_list_list, ty_list_dict, ty_dict_int, ty_dict_bool, ty_dict_str, ty_dict_tuple, ty_dict_list, ty_dict_dict, Bool.not_true, Bool.not_false, Bool.or_false, Bool.false_or, Bool.or_true, Bool.true_or, List.set_cons_zero, List.set_cons_succ, wipeE, Nat.zero_add, Nat.reduceAdd, Nat.reduceSub, List.replicate_succ, List.replicate_zero, Option.bind_some, if_true, Int.toNat_natCast, ne0_1, ne0_2, ne0_3, ne0_4, true_and, and_true, Option.map_some, if_false, n_non, n_bl, n_int, n_str, n_tup, n_lst, Bool.false_eq_true, List.contains_cons, List.contains_nil, Nat.reduceBEq, BEq.rfl, decide_true, decide_false, andL, compW_K, compK_map, ite_KK, ite_PK, ite_KP, ite_PP, ite_some, ite_dint, ite_dbl, ck_opt, ck_opt0, fm_some, fm_if, fm_dec, ck_draw, ck_draw0, ix_tm, ix_lm, ix0, ix1, ix2, ix3, Int.toNat_sub, ← Int.natCast_add, Int.toNat_natCast_add_one, min_m, max_m, min_mc, max_mc, sum_m, all_m, any_m, zip_m, enm_m, frs_mapf, mc_pp, mc_draw, getI_nat, inb_nat, List.length_map, List.length_range, List.mem_range, List.length_zip, List.length_append, wfor_map, decide_eq_true_eq, reduceCtorEq, eqOk_intT, eqOk_blT, nc_one, nc_suc, nc_pre, nc_pre2, nc_sub, cast_sub1, cast_sub2, e_intN, e_blN, beq_iff_eq, Bool.and_true, Bool.true_and, Bool.and_false, Bool.false_and])
    refine ⟨⟨⟨⟨⟨⟨?_, ?_⟩, ?_⟩, ?_⟩, ?_⟩, ?_⟩, ?_⟩
    · rw [Wk.cl]; exact cls_mi _ _
    · omega
    · omega
    · omega
    · exact fun y hy => take_ne lx hr hy
    · exact cl_cv _
    · have fin := hN _ ⟨some (.int i), some (cv (runs (lowOf xs rs))), z6, z7, rfl⟩
      by_cases h : bndB (runs (lowOf xs rs)) ys = true
      · have := (leB_iff ll pt.len).mpr (bnd_le px ll hle (bndB_iff.mp h))
        simp only [h, this, Bool.not_true, Bool.false_eq_true, if_false, if_true]
        exact fin
      · simp only [h, Bool.false_eq_true, if_false]
        exact fin
/-! ## the rest of the math -/
theorem poured_at {b r : Int} {n i : Nat} (h : i < n) : cat (poured b r n) i = if (i : Int) = 0 then 0 else b + r * i := by
  simp [poured, cat, h]
theorem served_at' {b r : Int} {n i : Nat} (h : i < n) : cat (servedF b r n) i = r * (if (i : Int) - b > 0 then (i : Int) - b else 0) := by
  simp [servedF, cat, h]
theorem mul_up {r : Int} (h : 0 ≤ r) {a b : Int} (l : a ≤ b) : r * a ≤ r * b := Int.mul_le_mul_of_nonneg_left l h
theorem mul_to {r a : Int} (h : 0 ≤ r) (r5 : r ≤ 5) (a0 : 0 ≤ a) (a12 : a ≤ 12) : 0 ≤ r * a ∧ r * a ≤ 60 := by
  refine ⟨Int.mul_nonneg h a0, ?_⟩
  have h1 := Int.mul_le_mul_of_nonneg_left a12 h
  omega
theorem poured_P {b r : Int} {n : Nat} (n12 : n ≤ 12) (b0 : 0 ≤ b) (b9 : b ≤ 9) (r0 : 0 ≤ r) (r5 : r ≤ 5) : P n 200 (poured b r n) where
  len := by simp [poured]
  bd := fun i hi => by
    rw [poured_at hi]
    have := mul_to r0 r5 (a := i) (by omega) (by omega)
    split <;> omega
  up := fun i hi => by
    rw [poured_at hi, poured_at (by omega)]
    have h1 := mul_to r0 r5 (a := i) (by omega) (by omega)
    have h2 := mul_up r0 (a := i) (b := ((i + 1 : Nat) : Int)) (by omega)
    split <;> split <;> omega
theorem poured_sub {b r : Int} {n : Nat} (b0 : 0 ≤ b) (a c : Nat) (h : a + c < n) : cat (poured b r n) (a + c) ≤ cat (poured b r n) a + cat (poured b r n) c := by
  rw [poured_at h, poured_at (by omega), poured_at (by omega)]
  have e : r * ((a + c : Nat) : Int) = r * a + r * c := by push_cast; rw [Int.mul_add]
  rw [e]
  by_cases ha : (a : Int) = 0
  · have : r * (a : Int) = 0 := by rw [ha]; simp
    rw [if_pos ha]
    by_cases hc : (c : Int) = 0
    · rw [if_pos hc, if_pos (by omega)]; omega
    · rw [if_neg hc, if_neg (by omega)]; omega
  · rw [if_neg ha]
    by_cases hc : (c : Int) = 0
    · have : r * (c : Int) = 0 := by rw [hc]; simp
      rw [if_pos hc, if_neg (by omega)]; omega
    · rw [if_neg hc, if_neg (by omega)]; omega
theorem poured_0 {b r : Int} {n : Nat} (h : 1 ≤ n) : cat (poured b r n) 0 = 0 := by rw [poured_at (by omega)]; rfl
theorem served_P {b r : Int} {n : Nat} (n12 : n ≤ 12) (b0 : 0 ≤ b) (r0 : 0 ≤ r) (r5 : r ≤ 5) : P n 200 (servedF b r n) where
  len := by simp [servedF]
  bd := fun i hi => by
    rw [served_at' hi]
    have := mul_to r0 r5 (a := if (i : Int) - b > 0 then (i : Int) - b else 0) (by split <;> omega) (by split <;> omega)
    omega
  up := fun i hi => by
    rw [served_at' hi, served_at' (by omega)]
    exact mul_up r0 (by split <;> split <;> omega)
theorem straight_sub {r : Int} {n : Nat} (a c : Nat) (h : a + c < n) : cat (servedF 0 r n) (a + c) ≤ cat (servedF 0 r n) a + cat (servedF 0 r n) c := by
  rw [served_at' h, served_at' (by omega), served_at' (by omega), ← Int.mul_add]
  have e : (if ((a + c : Nat) : Int) - 0 > 0 then ((a + c : Nat) : Int) - 0 else 0) = (if (a : Int) - 0 > 0 then (a : Int) - 0 else 0) + (if (c : Int) - 0 > 0 then (c : Int) - 0 else 0) := by
    split <;> split <;> split <;> omega
  rw [e]
  exact Int.le_refl _
theorem served_0 {b r : Int} {n : Nat} (h : 1 ≤ n) (b0 : 0 ≤ b) : cat (servedF b r n) 0 = 0 := by
  rw [served_at' (by omega), if_neg (by omega)]; simp
/-- a late server closes to nothing -/
theorem late_zero {b r : Int} {n : Nat} (n12 : n ≤ 12) (h : 1 ≤ n) (b1 : 1 ≤ b) (r0 : 0 ≤ r) (r5 : r ≤ 5) : closed (servedF b r n) = List.replicate n 0 := by
  have p := served_P (b := b) n12 (by omega) r0 r5
  have pc := p.closed h
  have c1 : ∀ i, i < n → cat (closed (servedF b r n)) i ≤ 0 := by
    intro i
    induction i with
    | zero => intro _; rw [closed_0 (by rw [p.len]; omega)]; omega
    | succ i ih =>
      intro hi
      have h1 := closed_sub (xs := servedF b r n) (a := i) (b := 1) (by rw [p.len]; omega)
      have h2 := closed_le (xs := servedF b r n) (fun j hj => (p.bd j (by rw [← p.len]; exact hj)).1) (h := 1) (by rw [p.len]; omega)
      rw [served_at' (by omega), if_neg (by omega)] at h2
      have h3 := ih (by omega)
      simp only [Int.mul_zero] at h2
      omega
  refine cat_ext (by rw [pc.len]; simp) fun i hi => ?_
  rw [pc.len] at hi
  rw [cat_rep _ _ hi]
  have := (pc.bd i hi).1
  have := c1 i hi
  omega
end T71
end sec_L71d

section sec_L71e
set_option Elab.async false
set_option linter.all false
set_option maxRecDepth 100000
set_option maxHeartbeats 4000000
namespace T71
open PySem PySem.Spec Wk
def cSaid : Except Err D → (D → Prop) → Prop := fun o Q => match o with
  | .ok _ => Q (.bl false)
  | .error z => z = noCurve ∧ Q (.bl true)
section
variable (Q : D → Prop) (Z : Err → Prop)
theorem ms_ok (d : D) : ms cSaid (.ok d) Q = Q (.bl false) := propext ⟨fun ⟨_, h, i⟩ => i _ h, fun q => ⟨Q, q, fun _ h => h⟩⟩
theorem ms_err : ms cSaid (.error noCurve) Q = Q (.bl true) := propext ⟨fun ⟨_, h, i⟩ => i _ h.2, fun q => ⟨Q, ⟨rfl, q⟩, fun _ h => h⟩⟩
theorem bad_eq {a b : D} (h : ¬ OkPair a b) : mc cShaped [a, b] Q Z = Z noCurve := propext ⟨fun ⟨Q', Z', ⟨a', b', e, _, z⟩, _, j⟩ => by cases e; exact j _ (z h), fun z => shap_bad h z⟩
theorem no_eq {xs ys : List Int} (cx : Curve xs) (cy : Curve ys) (l : xs.length = ys.length) (c : ¬ Cl ys) : mc cShaped [cv xs, cv ys] Q Z = Z noCurve := propext ⟨fun ⟨Q', Z', ⟨a', b', e, h, z⟩, _, j⟩ => by cases e; exact j _ ((h xs ys rfl rfl cx cy l).2 c), fun z => shap_no cx cy l c z⟩
theorem clno_eq {a : D} (h : ∀ xs, a = cv xs → ¬ Curve xs) : mc cClosed [a] Q Z = Z noCurve := propext ⟨fun ⟨Q', Z', ⟨a', e, _, z⟩, _, j⟩ => by cases e; exact j _ (z h), fun z => clos_no h z⟩
theorem any_eq (b : Bool) (xs : List D) : mc cAny [.hand, .lst b xs] Q Z = ((xs ≠ [] ∧ xs.length < 1073741824) ∧ ∀ x ∈ xs, Q x) := propext ⟨fun ⟨Q', Z', ⟨b', xs', e, h1, h2, h3⟩, i, _⟩ => by cases e; exact ⟨⟨h1, h2⟩, fun x hx => i _ (h3 x hx)⟩, fun ⟨⟨h1, h2⟩, h3⟩ => mc_iff ⟨b, xs, rfl, h1, h2, h3⟩⟩
theorem cr_eq {n : Nat} {xs : List Int} (h : 1 ≤ n ∧ n ≤ 12) (p : P n 200 xs) : mc cCR [.hand, cv xs] Q Z = Q (.bl true) := propext ⟨fun ⟨Q', Z', ⟨_, _, _, _, _, h⟩, i, _⟩ => i _ h, fun q => mc_iff ⟨n, xs, rfl, h, p, q⟩⟩
theorem sr_eq {n : Nat} {xs ys : List Int} (h : 1 ≤ n ∧ n ≤ 12) (p : P n 200 xs) (p' : P n 200 ys) (c : Cl ys) : mc cSR [.hand, cv xs, cv ys] Q Z = Q (.bl true) := propext ⟨fun ⟨Q', Z', ⟨_, _, _, _, _, _, _, _, h⟩, i, _⟩ => i _ h, fun q => mc_iff ⟨n, xs, ys, rfl, h, p, p', c, q⟩⟩
theorem pour_eq {b r : Int} {n : Nat} (hb : 0 ≤ b ∧ b ≤ 1000) (hr : 0 ≤ r ∧ r ≤ 1000) (hn : 1 ≤ n ∧ n ≤ 60) : mc cPour [.int b, .int r, .int n] Q Z = Q (cv (poured b r n)) := propext ⟨fun ⟨Q', Z', ⟨b', r', n', e, _, _, _, h⟩, i, _⟩ => by
  simp only [List.cons.injEq, and_true, D.int.injEq] at e
  obtain ⟨rfl, rfl, e⟩ := e
  obtain rfl : n = n' := by omega
  exact i _ h, fun q => mc_iff ⟨b, r, n, rfl, hb, hr, hn, q⟩⟩
theorem serv_eq {b r : Int} {n : Nat} (hb : 0 ≤ b ∧ b ≤ 60) (hr : 0 ≤ r ∧ r ≤ 1000) (hn : 1 ≤ n ∧ n ≤ 60) : mc cServed [.int b, .int r, .int n] Q Z = Q (cv (servedF b r n)) := propext ⟨fun ⟨Q', Z', ⟨b', r', n', e, _, _, _, h⟩, i, _⟩ => by
  simp only [List.cons.injEq, and_true, D.int.injEq] at e
  obtain ⟨rfl, rfl, e⟩ := e
  obtain rfl : n = n' := by omega
  exact i _ h, fun q => mc_iff ⟨b, r, n, rfl, hb, hr, hn, q⟩⟩
end
theorem bnd_lb {n : Nat} {xs ys : List Int} (l : xs.length = n) (l' : ys.length = n) : Bnd xs ys ↔ Le n (lb xs) ys := by
  constructor
  · intro b s hs
    obtain ⟨a, ha, e⟩ := lb_ex (xs := xs) (s := s) (by omega)
    rw [e]
    have := b a (a + s) (by omega) (by omega)
    rw [show a + s - a = s by omega] at this
    exact this
  · intro h a i ha hi
    have h1 := lb_ge (xs := xs) (s := i - a) (a := a) (by omega)
    rw [show a + (i - a) = i by omega] at h1
    have := h (i - a) (by omega)
    omega
theorem bnd_closed {n : Nat} {A B : Int} {xs ys : List Int} (px : P n A xs) (py : P n B ys) (h1 : 1 ≤ n) : bndB xs ys = bndB xs (closed ys) := by
  rw [Bool.eq_iff_iff, bndB_iff, bndB_iff, bnd_lb px.len py.len, bnd_lb px.len (by rw [closed_len, py.len])]
  constructor
  · intro h
    have := lb_closed py px.len h1 ((leB_iff (by rw [lb_len, px.len]) py.len).mpr h)
    exact (leB_iff (by rw [lb_len, px.len]) (by rw [closed_len, py.len])).mp this
  · intro h i hi
    exact Int.le_trans (h i hi) (closed_le (fun j hj => (py.bd j (by rw [← py.len]; exact hj)).1) (by rw [py.len]; exact hi))
theorem cl_of {n : Nat} {B : Int} {ys : List Int} (p : P n B ys) (h1 : 1 ≤ n) (e : closed ys = ys) : Cl ys := ⟨by rw [← e]; exact closed_0 (by rw [p.len]; omega), e⟩
variable (C : Nat → Con) (S : Nat → Except Err D → (D → Prop) → Prop) (k : Nat)
theorem rep_int (k : Nat) (x : Int) : (List.replicate k ([D.int x] : List D)).flatten = (List.replicate k x).map D.int := by
  induction k with
  | zero => rfl
  | succ k ih => simp [List.replicate_succ, ih]
theorem rep_d {α : Type} (k : Nat) (x : α) : (List.replicate k [x]).flatten = List.replicate k x := by
  induction k with
  | zero => rfl
  | succ k ih => simp [List.replicate_succ, ih]
theorem frs_bl (k : Nat) (b : Bool) : Wk.frs (List.replicate k (D.bl b)) = List.replicate k (D.bl b) := by
  induction k with
  | zero => rfl
  | succ k ih => simp only [List.replicate_succ, Wk.frs, Wk.fr, ih]
theorem frs_rI (k : Nat) (i : Int) : Wk.frs (List.replicate k (D.int i)) = List.replicate k (D.int i) := by
  induction k with
  | zero => rfl
  | succ k ih => simp only [List.replicate_succ, Wk.frs, Wk.fr, ih]
theorem cls_bl (k : Nat) (b : Bool) : Wk.cls (List.replicate k (D.bl b)) = true := by
  induction k with
  | zero => rfl
  | succ k ih => simp only [List.replicate_succ, Wk.cls, Wk.cl, ih, Bool.and_self]
theorem cut_last {α : Type} (xs : List α) : Wk.cutD xs (some (-1)) none = xs.drop (xs.length - 1) := by
  unfold Wk.cutD HT.sIx
  simp only [show ((-1 : Int) < 0) by decide, if_true]
  rw [List.take_of_length_le (by rw [List.length_drop]; omega)]
  congr 1
  omega
theorem not_pairL {y : List Int} {n : Nat} (l : y.length = n) {d : D} (h : ∀ zs, d = cv zs → Curve zs → zs.length = n → False) : ¬ OkPair (cv y) d := by
  rintro ⟨a, b, e1, e2, c1, c2, l2⟩
  have := cv_inj e1
  subst this
  exact h b e2 c2 (by omega)
theorem not_pairR {y : List Int} {n : Nat} (l : y.length = n) {d : D} (h : ∀ zs, d = cv zs → Curve zs → zs.length = n → False) : ¬ OkPair d (cv y) := by
  rintro ⟨a, b, e1, e2, c1, c2, l2⟩
  have := cv_inj e2
  subst this
  exact h a e1 c1 (by omega)
theorem tail22 (h9 : C 9 = cClosed) (h10 : C 10 = cShaped) (h13 : C 13 = cAny) (hS : S 0 = cSaid) {n : Nat} (n1 : 1 ≤ n) (n2 : n ≤ 12) {x y : List Int} (px : P n 200 x) (py : P n 200 y) {Q : D → Prop} {Z : Err → Prop} (q : Q (.bl true)) (z2 z3 z4 z5 z6 z9 z10 z11 z12 z13 : Option D) :
    wps (GG C k S) (s__law_is_right.drop 11) [some .hand, some (.int n), z2, z3, z4, z5, z6, some (cv x), some (cv y), z9, z10, z11, z12, z13] (endPost Q Z) := by
  have cx := px.curve n1 (by omega) (by omega)
  have cy := py.curve n1 (by omega) (by omega)
  have pc := px.closed n1
  have cc := pc.curve n1 (by omega) (by omega)
  have lx := px.len
  have ly := py.len
  have lc := pc.len
  (simp only [s__law_is_right, List.drop_succ_cons, List.drop_zero, h9, h10, h13, hS, clos_eq _ _ cx, frs_int, eqD_cvs, eqOk_cv, cut1, cut_n, ← List.map_drop, ← List.map_take, cl_cv, any_eq, ms_ok, ms_err, rep_d, frs_rI, cut_last, List.length_drop, ← List.map_append, frs_bl, lx, v_var, v_int, v_bl, v_non, v_str, v_glo, v_bin, v_neg, v_cmp, v_chain, v_and, v_or, v_not, v_ite, v_tup, v_lst, v_dnew, v_idx, v_sl, v_rev, v_call, v_blt, v_isi, v_said, v_lc, vs_nil, vs_cons, vO_none, vO_some, vC_none, vC_some, va_one, va_cons, vo_one, vo_cons, w_asg, w_mov, w_lcs, w_par, w_par3, w_app, w_set, w_aug, w_ret, w_retL, w_retA, w_movA, w_retv, w_retN, w_ife, w_whl, w_fr, w_frL, w_expr, w_rse, w_pas, w_brk, w_cnt, ws_nil, ws_cons, restr, frzL, augW, optV_some, getV_some, intV_int, blV_bl, ownV_lst, entry, List.map_cons, List.map_nil, List.length_cons, List.length_nil, endPost, List.getElem?_cons_zero, List.getElem?_cons_succ, List.cons_append, List.nil_append, Wk.fr, Wk.frs, b_add, b_sub, b_mul, b_div, b_mod, b_pow, b_addT, b_addL, b_mulL, b_mulT, q_lt, q_le, q_gt, q_ge, q_eq, q_ne, q_isN, q_isnN, l_tup, l_lst, l_scr, r_tup, r_lst, a_lenT, a_lenL, a_abs, a_int, a_tupT, a_tupL, a_lstT, a_lstL, a_min2, a_max2, s_seqT, s_seqL, rng_m, rng2_m, s_enm, s_zipT, s_zipL, t_name, t_tupT, t_tupL, t_nil, t_cons, u_bl, u_int, u_tup, u_lst, isiD, ty_int_int, ty_int_bool, ty_int_str, ty_int_tuple, ty_int_list, ty_int_dict, ty_bool_int, ty_bool_bool, ty_bool_str, ty_bool_tuple, ty_bool_list, ty_bool_dict, ty_str_int, ty_str_bool, ty_str_str, ty_str_tuple, ty_str_list, ty_str_dict, ty_tuple_int, ty_tuple_bool, ty_tuple_str, ty_tuple_tuple, ty_tuple_list, ty_tuple_dict, ty_list_int, ty_list_bool, ty_list_str, ty_list_tuple, ty_list_list, ty_list_dict, ty_dict_int, ty_dict_bool, ty_dict_str, ty_dict_tuple, ty_dict_list, ty_dict_dict, Bool.not_true, Bool.not_false, Bool.or_false, Bool.false_or, Bool.or_true, Bool.true_or, List.set_cons_zero, List.set_cons_succ, wipeE, Nat.zero_add, Nat.reduceAdd, Nat.reduceSub, List.replicate_succ, List.replicate_zero, Option.bind_some, if_true, Int.toNat_natCast, ne0_1, ne0_2, ne0_3, ne0_4, true_and, and_true, Option.map_some, if_false, n_non, n_bl, n_int, n_str, n_tup, n_lst, Bool.false_eq_true, List.contains_cons, List.contains_nil, Nat.reduceBEq, BEq.rfl, decide_true, decide_false, andL, compW_K, compK_map, ite_KK, ite_PK, ite_KP, ite_PP, ite_some, ite_dint, ite_dbl, ck_opt, ck_opt0, fm_some, fm_if, fm_dec, ck_draw, ck_draw0, ix_tm, ix_lm, ix0, ix1, ix2, ix3, Int.toNat_sub, ← Int.natCast_add, Int.toNat_natCast_add_one, min_m, max_m, min_mc, max_mc, sum_m, all_m, any_m, zip_m, enm_m, frs_mapf, mc_pp, mc_draw, getI_nat, inb_nat, List.length_map, List.length_range, List.mem_range, List.length_zip, List.length_append, wfor_map, decide_eq_true_eq, reduceCtorEq, eqOk_intT, eqOk_blT, nc_one, nc_suc, nc_pre, nc_pre2, nc_sub, cast_sub1, cast_sub2, e_intN, e_blN, beq_iff_eq, Bool.and_true, Bool.true_and, Bool.and_false, Bool.false_and]; try simp only [s__law_is_right, List.drop_succ_cons, List.drop_zero, h9, h10, h13, hS, clos_eq _ _ cx, frs_int, eqD_cvs, eqOk_cv, cut1, cut_n, ← List.map_drop, ← List.map_take, cl_cv, any_eq, ms_ok, ms_err, rep_d, frs_rI, cut_last, List.length_drop, ← List.map_append, frs_bl, lx, v_var, v_int, v_bl, v_non, v_str, v_glo, v_bin, v_neg, v_cmp, v_chain, v_and, v_or, v_not, v_ite, v_tup, v_lst, v_dnew, v_idx, v_sl, v_rev, v_call, v_blt, v_isi, v_said, v_lc, vs_nil, vs_cons, vO_none, vO_some, vC_none, vC_some, va_one, va_cons, vo_one, vo_cons, w_asg, w_mov, w_lcs, w_par, w_par3, w_app, w_set, w_aug, w_ret, w_retL, w_retA, w_movA, w_retv, w_retN, w_ife, w_whl, w_fr, w_frL, w_expr, w_rse, w_pas, w_brk, w_cnt, ws_nil, ws_cons, restr, frzL, augW, optV_some, getV_some, intV_int, blV_bl, ownV_lst, entry, List.map_cons, List.map_nil, List.length_cons, List.length_nil, endPost, List.getElem?_cons_zero, List.getElem?_cons_succ, List.cons_append, List.nil_append, Wk.fr, Wk.frs, b_add, b_sub, b_mul, b_div, b_mod, b_pow, b_addT, b_addL, b_mulL, b_mulT, q_lt, q_le, q_gt, q_ge, q_eq, q_ne, q_isN, q_isnN, l_tup, l_lst, l_scr, r_tup, r_lst, a_lenT, a_lenL, a_abs, a_int, a_tupT, a_tupL, a_lstT, a_lstL, a_min2, a_max2, s_seqT, s_seqL, rng_m, rng2_m, s_enm, s_zipT, s_zipL, t_name, t_tupT, t_tupL, t_nil, t_cons, u_bl, u_int, u_tup, u_lst, isiD, ty_int_int, ty_int_bool, ty_int_str, ty_int_tuple, ty_int_list, ty_int_dict, ty_bool_int, ty_bool_bool, ty_bool_str, ty_bool_tuple, ty_bool_list, ty_bool_dict, ty_str_int, ty_str_bool, ty_str_str, ty_str_tuple, ty_str_list, ty_str_dict, ty_tuple_int, ty_tuple_bool, ty_tuple_str, ty_tuple_tuple, ty_tuple_list, ty_tuple_dict, ty_list_int, ty_list_bool, ty_list_str, ty_list_tuple, ty_list_list, ty_list_dict, ty_dict_int, ty_dict_bool, ty_dict_str, ty_dict_tuple, ty_dict_list, ty_dict_dict, Bool.not_true, Bool.not_false, Bool.or_false, Bool.false_or, Bool.or_true, Bool.true_or, List.set_cons_zero, List.set_cons_succ, wipeE, Nat.zero_add, Nat.reduceAdd, Nat.reduceSub, List.replicate_succ, List.replicate_zero, Option.bind_some, if_true, Int.toNat_natCast, ne0_1, ne0_2, ne0_3, ne0_4, true_and, and_true, Option.map_some, if_false, n_non, n_bl, n_int, n_str, n_tup, n_lst, Bool.false_eq_true, List.contains_cons, List.contains_nil, Nat.reduceBEq, BEq.rfl, decide_true, decide_false, andL, compW_K, compK_map, ite_KK, ite_PK, ite_KP, ite_PP, ite_some, ite_dint, ite_dbl, ck_opt, ck_opt0, fm_some, fm_if, fm_dec, ck_draw, ck_draw0, ix_tm, ix_lm, ix0, ix1, ix2, ix3, Int.toNat_sub, ← Int.natCast_add, Int.toNat_natCast_add_one, min_m, max_m, min_mc, max_mc, sum_m, all_m, any_m, zip_m, enm_m, frs_mapf, mc_pp, mc_draw, getI_nat, inb_nat, List.length_map, List.length_range, List.mem_range, List.length_zip, List.length_append, wfor_map, decide_eq_true_eq, reduceCtorEq, eqOk_intT, eqOk_blT, nc_one, nc_suc, nc_pre, nc_pre2, nc_sub, cast_sub1, cast_sub2, e_intN, e_blN, beq_iff_eq, Bool.and_true, Bool.true_and, Bool.and_false, Bool.false_and])
  have key : ∀ d ∈ [D.non, D.tup [], D.int 0, D.lst false (List.map (fun x => D.int x) x), D.tup (List.map (fun x => D.int x) (x ++ List.drop (n - 1) x)), D.tup (D.int (-1) :: List.map (fun x => D.int x) (List.drop 1 x)), D.tup (List.replicate n (D.bl true)), D.str (Str.ofString "curve"), D.dik false (frk (frk []))],
      ∀ zs, fr (fr d) = cv zs → Curve zs → zs.length = n → False := by
    intro d hd zs e cz lz
    simp only [List.mem_cons, List.not_mem_nil, or_false] at hd
    rcases hd with rfl | rfl | rfl | rfl | rfl | rfl | rfl | rfl | rfl
    · cases e
    · have := cv_inj (xs := []) e
      subst this
      simp at lz; omega
    · cases e
    · cases e
    · simp only [Wk.fr, frs_int] at e
      have := cv_inj e
      subst this
      simp at lz; omega
    · simp only [Wk.fr, Wk.frs, frs_int] at e
      have := cv_inj (xs := -1 :: List.drop 1 x) e
      subst this
      have := (cz.bd (-1) (by simp)).1
      omega
    · simp only [Wk.fr, frs_bl, cv, D.tup.injEq] at e
      cases zs with
      | nil => simp at lz; omega
      | cons z zs =>
        obtain ⟨m, rfl⟩ : ∃ m, n = m + 1 := ⟨n - 1, by omega⟩
        simp [List.replicate_succ] at e
    · cases e
    · cases e
  have key2 : ∀ d ∈ [D.non, D.tup [], D.int 0, D.lst false (List.map (fun x => D.int x) x), D.tup (List.replicate (Int.toNat 61) (D.int 0)), D.tup [D.int 2, D.int 1], D.tup [D.bl true], D.str (Str.ofString "curve"), D.dik false (frk []), D.tup [D.int (10 ^ Int.toNat 6 + 1)]],
      ∀ zs, fr (fr d) = cv zs → ¬ Curve zs := by
    intro d hd zs e cz
    simp only [List.mem_cons, List.not_mem_nil, or_false] at hd
    rcases hd with rfl | rfl | rfl | rfl | rfl | rfl | rfl | rfl | rfl | rfl
    · cases e
    · have := cv_inj (xs := []) e
      subst this
      exact absurd cz.pos (by simp)
    · cases e
    · cases e
    · simp only [Wk.fr, frs_rI] at e
      have := cv_inj (xs := List.replicate (Int.toNat 61) 0) (ys := zs) ((congrArg D.tup (List.map_replicate (f := D.int))).trans e)
      subst this
      exact absurd cz.len (by rw [List.length_replicate]; decide)
    · have := cv_inj (xs := [2, 1]) e
      subst this
      exact absurd (cz.up (2, 1) (by simp)) (by decide)
    · simp only [Wk.fr, Wk.frs, cv, D.tup.injEq] at e
      cases zs with
      | nil => simp at e
      | cons z zs => simp at e
    · cases e
    · cases e
    · have := cv_inj (xs := [10 ^ Int.toNat 6 + 1]) e
      subst this
      exact absurd (cz.bd _ (List.mem_singleton.mpr rfl)).2 (by decide)
  have ns : sizeLine = 16777216 := sizeLine_eq
  refine ⟨⟨⟨⟨⟨⟨⟨⟨by omega, by omega⟩, by omega⟩, by omega⟩, by omega⟩, by simp only [Wk.cl, Wk.cls, Wk.clk, cls_int, cls_bl, Bool.and_self, Bool.and_true]⟩, by simp⟩, by omega⟩, fun d hd => ?_⟩
  have kd := key d hd
  generalize fr (fr d) = d' at kd ⊢
  have ny := not_pairL ly kd
  have nc := not_pairR lc kd
  (simp only [bad_eq _ _ ny, bad_eq _ _ nc, ms_err, v_var, v_int, v_bl, v_non, v_str, v_glo, v_bin, v_neg, v_cmp, v_chain, v_and, v_or, v_not, v_ite, v_tup, v_lst, v_dnew, v_idx, v_sl, v_rev, v_call, v_blt, v_isi, v_said, v_lc, vs_nil, vs_cons, vO_none, vO_some, vC_none, vC_some, va_one, va_cons, vo_one, vo_cons, w_asg, w_mov, w_lcs, w_par, w_par3, w_app, w_set, w_aug, w_ret, w_retL, w_retA, w_movA, w_retv, w_retN, w_ife, w_whl, w_fr, w_frL, w_expr, w_rse, w_pas, w_brk, w_cnt, ws_nil, ws_cons, restr, frzL, augW, optV_some, getV_some, intV_int, blV_bl, ownV_lst, entry, List.map_cons, List.map_nil, List.length_cons, List.length_nil, endPost, List.getElem?_cons_zero, List.getElem?_cons_succ, List.cons_append, List.nil_append, Wk.fr, Wk.frs, b_add, b_sub, b_mul, b_div, b_mod, b_pow, b_addT, b_addL, b_mulL, b_mulT, q_lt, q_le, q_gt, q_ge, q_eq, q_ne, q_isN, q_isnN, l_tup, l_lst, l_scr, r_tup, r_lst, a_lenT, a_lenL, a_abs, a_int, a_tupT, a_tupL, a_lstT, a_lstL, a_min2, a_max2, s_seqT, s_seqL, rng_m, rng2_m, s_enm, s_zipT, s_zipL, t_name, t_tupT, t_tupL, t_nil, t_cons, u_bl, u_int, u_tup, u_lst, isiD, ty_int_int, ty_int_bool, ty_int_str, ty_int_tuple, ty_int_list, ty_int_dict, ty_bool_int, ty_bool_bool, ty_bool_str, ty_bool_tuple, ty_bool_list, ty_bool_dict, ty_str_int, ty_str_bool, ty_str_str, ty_str_tuple, ty_str_list, ty_str_dict, ty_tuple_int, ty_tuple_bool, ty_tuple_str, ty_tuple_tuple, ty_tuple_list, ty_tuple_dict, ty_list_int, ty_list_bool, ty_list_str, ty_list_tuple, ty_list_list, ty_list_dict, ty_dict_int, ty_dict_bool, ty_dict_str, ty_dict_tuple, ty_dict_list, ty_dict_dict, Bool.not_true, Bool.not_false, Bool.or_false, Bool.false_or, Bool.or_true, Bool.true_or, List.set_cons_zero, List.set_cons_succ, wipeE, Nat.zero_add, Nat.reduceAdd, Nat.reduceSub, List.replicate_succ, List.replicate_zero, Option.bind_some, if_true, Int.toNat_natCast, ne0_1, ne0_2, ne0_3, ne0_4, true_and, and_true, Option.map_some, if_false, n_non, n_bl, n_int, n_str, n_tup, n_lst, Bool.false_eq_true, List.contains_cons, List.contains_nil, Nat.reduceBEq, BEq.rfl, decide_true, decide_false, andL, compW_K, compK_map, ite_KK, ite_PK, ite_KP, ite_PP, ite_some, ite_dint, ite_dbl, ck_opt, ck_opt0, fm_some, fm_if, fm_dec, ck_draw, ck_draw0, ix_tm, ix_lm, ix0, ix1, ix2, ix3, Int.toNat_sub, ← Int.natCast_add, Int.toNat_natCast_add_one, min_m, max_m, min_mc, max_mc, sum_m, all_m, any_m, zip_m, enm_m, frs_mapf, mc_pp, mc_draw, getI_nat, inb_nat, List.length_map, List.length_range, List.mem_range, List.length_zip, List.length_append, wfor_map, decide_eq_true_eq, reduceCtorEq, eqOk_intT, eqOk_blT, nc_one, nc_suc, nc_pre, nc_pre2, nc_sub, cast_sub1, cast_sub2, e_intN, e_blN, beq_iff_eq, Bool.and_true, Bool.true_and, Bool.and_false, Bool.false_and]; try simp only [bad_eq _ _ ny, bad_eq _ _ nc, ms_err, v_var, v_int, v_bl, v_non, v_str, v_glo, v_bin, v_neg, v_cmp, v_chain, v_and, v_or, v_not, v_ite, v_tup, v_lst, v_dnew, v_idx, v_sl, v_rev, v_call, v_blt, v_isi, v_said, v_lc, vs_nil, vs_cons, vO_none, vO_some, vC_none, vC_some, va_one, va_cons, vo_one, vo_cons, w_asg, w_mov, w_lcs, w_par, w_par3, w_app, w_set, w_aug, w_ret, w_retL, w_retA, w_movA, w_retv, w_retN, w_ife, w_whl, w_fr, w_frL, w_expr, w_rse, w_pas, w_brk, w_cnt, ws_nil, ws_cons, restr, frzL, augW, optV_some, getV_some, intV_int, blV_bl, ownV_lst, entry, List.map_cons, List.map_nil, List.length_cons, List.length_nil, endPost, List.getElem?_cons_zero, List.getElem?_cons_succ, List.cons_append, List.nil_append, Wk.fr, Wk.frs, b_add, b_sub, b_mul, b_div, b_mod, b_pow, b_addT, b_addL, b_mulL, b_mulT, q_lt, q_le, q_gt, q_ge, q_eq, q_ne, q_isN, q_isnN, l_tup, l_lst, l_scr, r_tup, r_lst, a_lenT, a_lenL, a_abs, a_int, a_tupT, a_tupL, a_lstT, a_lstL, a_min2, a_max2, s_seqT, s_seqL, rng_m, rng2_m, s_enm, s_zipT, s_zipL, t_name, t_tupT, t_tupL, t_nil, t_cons, u_bl, u_int, u_tup, u_lst, isiD, ty_int_int, ty_int_bool, ty_int_str, ty_int_tuple, ty_int_list, ty_int_dict, ty_bool_int, ty_bool_bool, ty_bool_str, ty_bool_tuple, ty_bool_list, ty_bool_dict, ty_str_int, ty_str_bool, ty_str_str, ty_str_tuple, ty_str_list, ty_str_dict, ty_tuple_int, ty_tuple_bool, ty_tuple_str, ty_tuple_tuple, ty_tuple_list, ty_tuple_dict, ty_list_int, ty_list_bool, ty_list_str, ty_list_tuple, ty_list_list, ty_list_dict, ty_dict_int, ty_dict_bool, ty_dict_str, ty_dict_tuple, ty_dict_list, ty_dict_dict, Bool.not_true, Bool.not_false, Bool.or_false, Bool.false_or, Bool.or_true, Bool.true_or, List.set_cons_zero, List.set_cons_succ, wipeE, Nat.zero_add, Nat.reduceAdd, Nat.reduceSub, List.replicate_succ, List.replicate_zero, Option.bind_some, if_true, Int.toNat_natCast, ne0_1, ne0_2, ne0_3, ne0_4, true_and, and_true, Option.map_some, if_false, n_non, n_bl, n_int, n_str, n_tup, n_lst, Bool.false_eq_true, List.contains_cons, List.contains_nil, Nat.reduceBEq, BEq.rfl, decide_true, decide_false, andL, compW_K, compK_map, ite_KK, ite_PK, ite_KP, ite_PP, ite_some, ite_dint, ite_dbl, ck_opt, ck_opt0, fm_some, fm_if, fm_dec, ck_draw, ck_draw0, ix_tm, ix_lm, ix0, ix1, ix2, ix3, Int.toNat_sub, ← Int.natCast_add, Int.toNat_natCast_add_one, min_m, max_m, min_mc, max_mc, sum_m, all_m, any_m, zip_m, enm_m, frs_mapf, mc_pp, mc_draw, getI_nat, inb_nat, List.length_map, List.length_range, List.mem_range, List.length_zip, List.length_append, wfor_map, decide_eq_true_eq, reduceCtorEq, eqOk_intT, eqOk_blT, nc_one, nc_suc, nc_pre, nc_pre2, nc_sub, cast_sub1, cast_sub2, e_intN, e_blN, beq_iff_eq, Bool.and_true, Bool.true_and, Bool.and_false, Bool.false_and])
  refine ⟨?_, fun w hw => ?_⟩
  · refine ⟨⟨⟨⟨⟨⟨⟨⟨rfl, by omega⟩, rfl⟩, by omega⟩, by omega⟩, by omega⟩, ?_⟩, by simp⟩, by omega⟩
    exact ⟨by omega, by omega, by decide⟩
  · have kw := key2 w hw
    generalize fr (fr w) = w' at kw ⊢
    (simp only [clno_eq _ _ kw, ms_err, v_var, v_int, v_bl, v_non, v_str, v_glo, v_bin, v_neg, v_cmp, v_chain, v_and, v_or, v_not, v_ite, v_tup, v_lst, v_dnew, v_idx, v_sl, v_rev, v_call, v_blt, v_isi, v_said, v_lc, vs_nil, vs_cons, vO_none, vO_some, vC_none, vC_some, va_one, va_cons, vo_one, vo_cons, w_asg, w_mov, w_lcs, w_par, w_par3, w_app, w_set, w_aug, w_ret, w_retL, w_retA, w_movA, w_retv, w_retN, w_ife, w_whl, w_fr, w_frL, w_expr, w_rse, w_pas, w_brk, w_cnt, ws_nil, ws_cons, restr, frzL, augW, optV_some, getV_some, intV_int, blV_bl, ownV_lst, entry, List.map_cons, List.map_nil, List.length_cons, List.length_nil, endPost, List.getElem?_cons_zero, List.getElem?_cons_succ, List.cons_append, List.nil_append, Wk.fr, Wk.frs, b_add, b_sub, b_mul, b_div, b_mod, b_pow, b_addT, b_addL, b_mulL, b_mulT, q_lt, q_le, q_gt, q_ge, q_eq, q_ne, q_isN, q_isnN, l_tup, l_lst, l_scr, r_tup, r_lst, a_lenT, a_lenL, a_abs, a_int, a_tupT, a_tupL, a_lstT, a_lstL, a_min2, a_max2, s_seqT, s_seqL, rng_m, rng2_m, s_enm, s_zipT, s_zipL, t_name, t_tupT, t_tupL, t_nil, t_cons, u_bl, u_int, u_tup, u_lst, isiD, ty_int_int, ty_int_bool, ty_int_str, ty_int_tuple, ty_int_list, ty_int_dict, ty_bool_int, ty_bool_bool, ty_bool_str, ty_bool_tuple, ty_bool_list, ty_bool_dict, ty_str_int, ty_str_bool, ty_str_str, ty_str_tuple, ty_str_list, ty_str_dict, ty_tuple_int, ty_tuple_bool, ty_tuple_str, ty_tuple_tuple, ty_tuple_list, ty_tuple_dict, ty_list_int, ty_list_bool, ty_list_str, ty_list_tuple, ty_list_list, ty_list_dict, ty_dict_int, ty_dict_bool, ty_dict_str, ty_dict_tuple, ty_dict_list, ty_dict_dict, Bool.not_true, Bool.not_false, Bool.or_false, Bool.false_or, Bool.or_true, Bool.true_or, List.set_cons_zero, List.set_cons_succ, wipeE, Nat.zero_add, Nat.reduceAdd, Nat.reduceSub, List.replicate_succ, List.replicate_zero, Option.bind_some, if_true, Int.toNat_natCast, ne0_1, ne0_2, ne0_3, ne0_4, true_and, and_true, Option.map_some, if_false, n_non, n_bl, n_int, n_str, n_tup, n_lst, Bool.false_eq_true, List.contains_cons, List.contains_nil, Nat.reduceBEq, BEq.rfl, decide_true, decide_false, andL, compW_K, compK_map, ite_KK, ite_PK, ite_KP, ite_PP, ite_some, ite_dint, ite_dbl, ck_opt, ck_opt0, fm_some, fm_if, fm_dec, ck_draw, ck_draw0, ix_tm, ix_lm, ix0, ix1, ix2, ix3, Int.toNat_sub, ← Int.natCast_add, Int.toNat_natCast_add_one, min_m, max_m, min_mc, max_mc, sum_m, all_m, any_m, zip_m, enm_m, frs_mapf, mc_pp, mc_draw, getI_nat, inb_nat, List.length_map, List.length_range, List.mem_range, List.length_zip, List.length_append, wfor_map, decide_eq_true_eq, reduceCtorEq, eqOk_intT, eqOk_blT, nc_one, nc_suc, nc_pre, nc_pre2, nc_sub, cast_sub1, cast_sub2, e_intN, e_blN, beq_iff_eq, Bool.and_true, Bool.true_and, Bool.and_false, Bool.false_and]; try simp only [clno_eq _ _ kw, ms_err, v_var, v_int, v_bl, v_non, v_str, v_glo, v_bin, v_neg, v_cmp, v_chain, v_and, v_or, v_not, v_ite, v_tup, v_lst, v_dnew, v_idx, v_sl, v_rev, v_call, v_blt, v_isi, v_said, v_lc, vs_nil, vs_cons, vO_none, vO_some, vC_none, vC_some, va_one, va_cons, vo_one, vo_cons, w_asg, w_mov, w_lcs, w_par, w_par3, w_app, w_set, w_aug, w_ret, w_retL, w_retA, w_movA, w_retv, w_retN, w_ife, w_whl, w_fr, w_frL, w_expr, w_rse, w_pas, w_brk, w_cnt, ws_nil, ws_cons, restr, frzL, augW, optV_some, getV_some, intV_int, blV_bl, ownV_lst, entry, List.map_cons, List.map_nil, List.length_cons, List.length_nil, endPost, List.getElem?_cons_zero, List.getElem?_cons_succ, List.cons_append, List.nil_append, Wk.fr, Wk.frs, b_add, b_sub, b_mul, b_div, b_mod, b_pow, b_addT, b_addL, b_mulL, b_mulT, q_lt, q_le, q_gt, q_ge, q_eq, q_ne, q_isN, q_isnN, l_tup, l_lst, l_scr, r_tup, r_lst, a_lenT, a_lenL, a_abs, a_int, a_tupT, a_tupL, a_lstT, a_lstL, a_min2, a_max2, s_seqT, s_seqL, rng_m, rng2_m, s_enm, s_zipT, s_zipL, t_name, t_tupT, t_tupL, t_nil, t_cons, u_bl, u_int, u_tup, u_lst, isiD, ty_int_int, ty_int_bool, ty_int_str, ty_int_tuple, ty_int_list, ty_int_dict, ty_bool_int, ty_bool_bool, ty_bool_str, ty_bool_tuple, ty_bool_list, ty_bool_dict, ty_str_int, ty_str_bool, ty_str_str, ty_str_tuple, ty_str_list, ty_str_dict, ty_tuple_int, ty_tuple_bool, ty_tuple_str, ty_tuple_tuple, ty_tuple_list, ty_tuple_dict, ty_list_int, ty_list_bool, ty_list_str, ty_list_tuple, ty_list_list, ty_list_dict, ty_dict_int, ty_dict_bool, ty_dict_str, ty_dict_tuple, ty_dict_list, ty_dict_dict, Bool.not_true, Bool.not_false, Bool.or_false, Bool.false_or, Bool.or_true, Bool.true_or, List.set_cons_zero, List.set_cons_succ, wipeE, Nat.zero_add, Nat.reduceAdd, Nat.reduceSub, List.replicate_succ, List.replicate_zero, Option.bind_some, if_true, Int.toNat_natCast, ne0_1, ne0_2, ne0_3, ne0_4, true_and, and_true, Option.map_some, if_false, n_non, n_bl, n_int, n_str, n_tup, n_lst, Bool.false_eq_true, List.contains_cons, List.contains_nil, Nat.reduceBEq, BEq.rfl, decide_true, decide_false, andL, compW_K, compK_map, ite_KK, ite_PK, ite_KP, ite_PP, ite_some, ite_dint, ite_dbl, ck_opt, ck_opt0, fm_some, fm_if, fm_dec, ck_draw, ck_draw0, ix_tm, ix_lm, ix0, ix1, ix2, ix3, Int.toNat_sub, ← Int.natCast_add, Int.toNat_natCast_add_one, min_m, max_m, min_mc, max_mc, sum_m, all_m, any_m, zip_m, enm_m, frs_mapf, mc_pp, mc_draw, getI_nat, inb_nat, List.length_map, List.length_range, List.mem_range, List.length_zip, List.length_append, wfor_map, decide_eq_true_eq, reduceCtorEq, eqOk_intT, eqOk_blT, nc_one, nc_suc, nc_pre, nc_pre2, nc_sub, cast_sub1, cast_sub2, e_intN, e_blN, beq_iff_eq, Bool.and_true, Bool.true_and, Bool.and_false, Bool.false_and])
    rw [show List.replicate (Int.toNat 3) (D.bl true) = [.bl true, .bl true, .bl true] from rfl]
    refine ⟨⟨⟨⟨⟨⟨by omega, rfl⟩, by omega⟩, by omega⟩, by omega⟩, ?_⟩, ?_⟩
    · exact ⟨rfl, rfl, .inl (by simp [dep, deps])⟩
    · simpa [eqD, eqDs] using q
theorem n22 (h5 : C 5 = cPour) (h6 : C 6 = cServed) (h7 : C 7 = cBnd) (h9 : C 9 = cClosed) (h10 : C 10 = cShaped) (h12 : C 12 = cDraw) (h13 : C 13 = cAny) (h15 : C 15 = cCurveM) (h19 : C 19 = cClosedL) (h20 : C 20 = cCR) (h21 : C 21 = cSR) (hS : S 0 = cSaid) : ∀ ds Q Z, ds.length = 1 → Wk.frs ds = ds → cRight ds Q Z → wps (GG C k S) s__law_is_right (entry N__law_is_right ds) (endPost Q Z) := by
  rintro ds Q Z hl hf ⟨rfl, q⟩
  have fin := fun (n : Nat) (n1 : 1 ≤ n) (n2 : n ≤ 12) (x y : List Int) (px : P n 200 x) (py : P n 200 y) => tail22 C S k h9 h10 h13 hS n1 n2 px py (Z := Z) q
  have e : s__law_is_right = s__law_is_right.take 11 ++ s__law_is_right.drop 11 := rfl
  rw [e]
  clear e
  generalize s__law_is_right.drop 11 = B at fin ⊢
  (simp only [s__law_is_right, List.take_succ_cons, List.take_zero, N__law_is_right, h5, h6, h7, h9, h10, h12, h13, h15, h19, h20, h21, hS, frs_int, eqD_cvs, eqOk_cv, cut1, cut_n, ← List.map_drop, ← List.map_take, cl_cv, any_eq, ms_ok, ms_err, v_var, v_int, v_bl, v_non, v_str, v_glo, v_bin, v_neg, v_cmp, v_chain, v_and, v_or, v_not, v_ite, v_tup, v_lst, v_dnew, v_idx, v_sl, v_rev, v_call, v_blt, v_isi, v_said, v_lc, vs_nil, vs_cons, vO_none, vO_some, vC_none, vC_some, va_one, va_cons, vo_one, vo_cons, w_asg, w_mov, w_lcs, w_par, w_par3, w_app, w_set, w_aug, w_ret, w_retL, w_retA, w_movA, w_retv, w_retN, w_ife, w_whl, w_fr, w_frL, w_expr, w_rse, w_pas, w_brk, w_cnt, ws_nil, ws_cons, restr, frzL, augW, optV_some, getV_some, intV_int, blV_bl, ownV_lst, entry, List.map_cons, List.map_nil, List.length_cons, List.length_nil, endPost, List.getElem?_cons_zero, List.getElem?_cons_succ, List.cons_append, List.nil_append, Wk.fr, Wk.frs, b_add, b_sub, b_mul, b_div, b_mod, b_pow, b_addT, b_addL, b_mulL, b_mulT, q_lt, q_le, q_gt, q_ge, q_eq, q_ne, q_isN, q_isnN, l_tup, l_lst, l_scr, r_tup, r_lst, a_lenT, a_lenL, a_abs, a_int, a_tupT, a_tupL, a_lstT, a_lstL, a_min2, a_max2, s_seqT, s_seqL, rng_m, rng2_m, s_enm, s_zipT, s_zipL, t_name, t_tupT, t_tupL, t_nil, t_cons, u_bl, u_int, u_tup, u_lst, isiD, ty_int_int, ty_int_bool, ty_int_str, ty_int_tuple, ty_int_list, ty_int_dict, ty_bool_int, ty_bool_bool, ty_bool_str, ty_bool_tuple, ty_bool_list, ty_bool_dict, ty_str_int, ty_str_bool, ty_str_str, ty_str_tuple, ty_str_list, ty_str_dict, ty_tuple_int, ty_tuple_bool, ty_tuple_str, ty_tuple_tuple, ty_tuple_list, ty_tuple_dict, ty_list_int, ty_list_bool, ty_list_str, ty_list_tuple, ty_list_list, ty_list_dict, ty_dict_int, ty_dict_bool, ty_dict_str, ty_dict_tuple, ty_dict_list, ty_dict_dict, Bool.not_true, Bool.not_false, Bool.or_false, Bool.false_or, Bool.or_true, Bool.true_or, List.set_cons_zero, List.set_cons_succ, wipeE, Nat.zero_add, Nat.reduceAdd, Nat.reduceSub, List.replicate_succ, List.replicate_zero, Option.bind_some, if_true, Int.toNat_natCast, ne0_1, ne0_2, ne0_3, ne0_4, true_and, and_true, Option.map_some, if_false, n_non, n_bl, n_int, n_str, n_tup, n_lst, Bool.false_eq_true, List.contains_cons, List.contains_nil, Nat.reduceBEq, BEq.rfl, decide_true, decide_false, andL, compW_K, compK_map, ite_KK, ite_PK, ite_KP, ite_PP, ite_some, ite_dint, ite_dbl, ck_opt, ck_opt0, fm_some, fm_if, fm_dec, ck_draw, ck_draw0, ix_tm, ix_lm, ix0, ix1, ix2, ix3, Int.toNat_sub, ← Int.natCast_add, Int.toNat_natCast_add_one, min_m, max_m, min_mc, max_mc, sum_m, all_m, any_m, zip_m, enm_m, frs_mapf, mc_pp, mc_draw, getI_nat, inb_nat, List.length_map, List.length_range, List.mem_range, List.length_zip, List.length_append, wfor_map, decide_eq_true_eq, reduceCtorEq, eqOk_intT, eqOk_blT, nc_one, nc_suc, nc_pre, nc_pre2, nc_sub, cast_sub1, cast_sub2, e_intN, e_blN, beq_iff_eq, Bool.and_true, Bool.true_and, Bool.and_false, Bool.false_and]; try simp only [s__law_is_right, List.take_succ_cons, List.take_zero, N__law_is_right, h5, h6, h7, h9, h10, h12, h13, h15, h19, h20, h21, hS, frs_int, eqD_cvs, eqOk_cv, cut1, cut_n, ← List.map_drop, ← List.map_take, cl_cv, any_eq, ms_ok, ms_err, v_var, v_int, v_bl, v_non, v_str, v_glo, v_bin, v_neg, v_cmp, v_chain, v_and, v_or, v_not, v_ite, v_tup, v_lst, v_dnew, v_idx, v_sl, v_rev, v_call, v_blt, v_isi, v_said, v_lc, vs_nil, vs_cons, vO_none, vO_some, vC_none, vC_some, va_one, va_cons, vo_one, vo_cons, w_asg, w_mov, w_lcs, w_par, w_par3, w_app, w_set, w_aug, w_ret, w_retL, w_retA, w_movA, w_retv, w_retN, w_ife, w_whl, w_fr, w_frL, w_expr, w_rse, w_pas, w_brk, w_cnt, ws_nil, ws_cons, restr, frzL, augW, optV_some, getV_some, intV_int, blV_bl, ownV_lst, entry, List.map_cons, List.map_nil, List.length_cons, List.length_nil, endPost, List.getElem?_cons_zero, List.getElem?_cons_succ, List.cons_append, List.nil_append, Wk.fr, Wk.frs, b_add, b_sub, b_mul, b_div, b_mod, b_pow, b_addT, b_addL, b_mulL, b_mulT, q_lt, q_le, q_gt, q_ge, q_eq, q_ne, q_isN, q_isnN, l_tup, l_lst, l_scr, r_tup, r_lst, a_lenT, a_lenL, a_abs, a_int, a_tupT, a_tupL, a_lstT, a_lstL, a_min2, a_max2, s_seqT, s_seqL, rng_m, rng2_m, s_enm, s_zipT, s_zipL, t_name, t_tupT, t_tupL, t_nil, t_cons, u_bl, u_int, u_tup, u_lst, isiD, ty_int_int, ty_int_bool, ty_int_str, ty_int_tuple, ty_int_list, ty_int_dict, ty_bool_int, ty_bool_bool, ty_bool_str, ty_bool_tuple, ty_bool_list, ty_bool_dict, ty_str_int, ty_str_bool, ty_str_str, ty_str_tuple, ty_str_list, ty_str_dict, ty_tuple_int, ty_tuple_bool, ty_tuple_str, ty_tuple_tuple, ty_tuple_list, ty_tuple_dict, ty_list_int, ty_list_bool, ty_list_str, ty_list_tuple, ty_list_list, ty_list_dict, ty_dict_int, ty_dict_bool, ty_dict_str, ty_dict_tuple, ty_dict_list, ty_dict_dict, Bool.not_true, Bool.not_false, Bool.or_false, Bool.false_or, Bool.or_true, Bool.true_or, List.set_cons_zero, List.set_cons_succ, wipeE, Nat.zero_add, Nat.reduceAdd, Nat.reduceSub, List.replicate_succ, List.replicate_zero, Option.bind_some, if_true, Int.toNat_natCast, ne0_1, ne0_2, ne0_3, ne0_4, true_and, and_true, Option.map_some, if_false, n_non, n_bl, n_int, n_str, n_tup, n_lst, Bool.false_eq_true, List.contains_cons, List.contains_nil, Nat.reduceBEq, BEq.rfl, decide_true, decide_false, andL, compW_K, compK_map, ite_KK, ite_PK, ite_KP, ite_PP, ite_some, ite_dint, ite_dbl, ck_opt, ck_opt0, fm_some, fm_if, fm_dec, ck_draw, ck_draw0, ix_tm, ix_lm, ix0, ix1, ix2, ix3, Int.toNat_sub, ← Int.natCast_add, Int.toNat_natCast_add_one, min_m, max_m, min_mc, max_mc, sum_m, all_m, any_m, zip_m, enm_m, frs_mapf, mc_pp, mc_draw, getI_nat, inb_nat, List.length_map, List.length_range, List.mem_range, List.length_zip, List.length_append, wfor_map, decide_eq_true_eq, reduceCtorEq, eqOk_intT, eqOk_blT, nc_one, nc_suc, nc_pre, nc_pre2, nc_sub, cast_sub1, cast_sub2, e_intN, e_blN, beq_iff_eq, Bool.and_true, Bool.true_and, Bool.and_false, Bool.false_and])
  refine ⟨by omega, fun r r0 r1 => ?_⟩
  obtain ⟨m, rfl⟩ := Int.eq_ofNat_of_zero_le r0
  obtain ⟨n, hn⟩ : ∃ n, n = 1 + m := ⟨_, rfl⟩
  have en : (1 : Int) + (m : Int) = ((n : Nat) : Int) := by omega
  have n1 : 1 ≤ n := by omega
  have n2 : n ≤ 12 := by omega
  clear hn
  simp only [en]
  clear en r0 r1 m
  (simp only [curve_eq _ _ n2 (show (1 : Int) ≤ 7 ∧ (7 : Int) ≤ 9 by omega), v_var, v_int, v_bl, v_non, v_str, v_glo, v_bin, v_neg, v_cmp, v_chain, v_and, v_or, v_not, v_ite, v_tup, v_lst, v_dnew, v_idx, v_sl, v_rev, v_call, v_blt, v_isi, v_said, v_lc, vs_nil, vs_cons, vO_none, vO_some, vC_none, vC_some, va_one, va_cons, vo_one, vo_cons, w_asg, w_mov, w_lcs, w_par, w_par3, w_app, w_set, w_aug, w_ret, w_retL, w_retA, w_movA, w_retv, w_retN, w_ife, w_whl, w_fr, w_frL, w_expr, w_rse, w_pas, w_brk, w_cnt, ws_nil, ws_cons, restr, frzL, augW, optV_some, getV_some, intV_int, blV_bl, ownV_lst, entry, List.map_cons, List.map_nil, List.length_cons, List.length_nil, endPost, List.getElem?_cons_zero, List.getElem?_cons_succ, List.cons_append, List.nil_append, Wk.fr, Wk.frs, b_add, b_sub, b_mul, b_div, b_mod, b_pow, b_addT, b_addL, b_mulL, b_mulT, q_lt, q_le, q_gt, q_ge, q_eq, q_ne, q_isN, q_isnN, l_tup, l_lst, l_scr, r_tup, r_lst, a_lenT, a_lenL, a_abs, a_int, a_tupT, a_tupL, a_lstT, a_lstL, a_min2, a_max2, s_seqT, s_seqL, rng_m, rng2_m, s_enm, s_zipT, s_zipL, t_name, t_tupT, t_tupL, t_nil, t_cons, u_bl, u_int, u_tup, u_lst, isiD, ty_int_int, ty_int_bool, ty_int_str, ty_int_tuple, ty_int_list, ty_int_dict, ty_bool_int, ty_bool_bool, ty_bool_str, ty_bool_tuple, ty_bool_list, ty_bool_dict, ty_str_int, ty_str_bool, ty_str_str, ty_str_tuple, ty_str_list, ty_str_dict, ty_tuple_int, ty_tuple_bool, ty_tuple_str, ty_tuple_tuple, ty_tuple_list, ty_tuple_dict, ty_list_int, ty_list_bool, ty_list_str, ty_list_tuple, ty_list_list, ty_list_dict, ty_dict_int, ty_dict_bool, ty_dict_str, ty_dict_tuple, ty_dict_list, ty_dict_dict, Bool.not_true, Bool.not_false, Bool.or_false, Bool.false_or, Bool.or_true, Bool.true_or, List.set_cons_zero, List.set_cons_succ, wipeE, Nat.zero_add, Nat.reduceAdd, Nat.reduceSub, List.replicate_succ, List.replicate_zero, Option.bind_some, if_true, Int.toNat_natCast, ne0_1, ne0_2, ne0_3, ne0_4, true_and, and_true, Option.map_some, if_false, n_non, n_bl, n_int, n_str, n_tup, n_lst, Bool.false_eq_true, List.contains_cons, List.contains_nil, Nat.reduceBEq, BEq.rfl, decide_true, decide_false, andL, compW_K, compK_map, ite_KK, ite_PK, ite_KP, ite_PP, ite_some, ite_dint, ite_dbl, ck_opt, ck_opt0, fm_some, fm_if, fm_dec, ck_draw, ck_draw0, ix_tm, ix_lm, ix0, ix1, ix2, ix3, Int.toNat_sub, ← Int.natCast_add, Int.toNat_natCast_add_one, min_m, max_m, min_mc, max_mc, sum_m, all_m, any_m, zip_m, enm_m, frs_mapf, mc_pp, mc_draw, getI_nat, inb_nat, List.length_map, List.length_range, List.mem_range, List.length_zip, List.length_append, wfor_map, decide_eq_true_eq, reduceCtorEq, eqOk_intT, eqOk_blT, nc_one, nc_suc, nc_pre, nc_pre2, nc_sub, cast_sub1, cast_sub2, e_intN, e_blN, beq_iff_eq, Bool.and_true, Bool.true_and, Bool.and_false, Bool.false_and]; try simp only [curve_eq _ _ n2 (show (1 : Int) ≤ 7 ∧ (7 : Int) ≤ 9 by omega), v_var, v_int, v_bl, v_non, v_str, v_glo, v_bin, v_neg, v_cmp, v_chain, v_and, v_or, v_not, v_ite, v_tup, v_lst, v_dnew, v_idx, v_sl, v_rev, v_call, v_blt, v_isi, v_said, v_lc, vs_nil, vs_cons, vO_none, vO_some, vC_none, vC_some, va_one, va_cons, vo_one, vo_cons, w_asg, w_mov, w_lcs, w_par, w_par3, w_app, w_set, w_aug, w_ret, w_retL, w_retA, w_movA, w_retv, w_retN, w_ife, w_whl, w_fr, w_frL, w_expr, w_rse, w_pas, w_brk, w_cnt, ws_nil, ws_cons, restr, frzL, augW, optV_some, getV_some, intV_int, blV_bl, ownV_lst, entry, List.map_cons, List.map_nil, List.length_cons, List.length_nil, endPost, List.getElem?_cons_zero, List.getElem?_cons_succ, List.cons_append, List.nil_append, Wk.fr, Wk.frs, b_add, b_sub, b_mul, b_div, b_mod, b_pow, b_addT, b_addL, b_mulL, b_mulT, q_lt, q_le, q_gt, q_ge, q_eq, q_ne, q_isN, q_isnN, l_tup, l_lst, l_scr, r_tup, r_lst, a_lenT, a_lenL, a_abs, a_int, a_tupT, a_tupL, a_lstT, a_lstL, a_min2, a_max2, s_seqT, s_seqL, rng_m, rng2_m, s_enm, s_zipT, s_zipL, t_name, t_tupT, t_tupL, t_nil, t_cons, u_bl, u_int, u_tup, u_lst, isiD, ty_int_int, ty_int_bool, ty_int_str, ty_int_tuple, ty_int_list, ty_int_dict, ty_bool_int, ty_bool_bool, ty_bool_str, ty_bool_tuple, ty_bool_list, ty_bool_dict, ty_str_int, ty_str_bool, ty_str_str, ty_str_tuple, ty_str_list, ty_str_dict, ty_tuple_int, ty_tuple_bool, ty_tuple_str, ty_tuple_tuple, ty_tuple_list, ty_tuple_dict, ty_list_int, ty_list_bool, ty_list_str, ty_list_tuple, ty_list_list, ty_list_dict, ty_dict_int, ty_dict_bool, ty_dict_str, ty_dict_tuple, ty_dict_list, ty_dict_dict, Bool.not_true, Bool.not_false, Bool.or_false, Bool.false_or, Bool.or_true, Bool.true_or, List.set_cons_zero, List.set_cons_succ, wipeE, Nat.zero_add, Nat.reduceAdd, Nat.reduceSub, List.replicate_succ, List.replicate_zero, Option.bind_some, if_true, Int.toNat_natCast, ne0_1, ne0_2, ne0_3, ne0_4, true_and, and_true, Option.map_some, if_false, n_non, n_bl, n_int, n_str, n_tup, n_lst, Bool.false_eq_true, List.contains_cons, List.contains_nil, Nat.reduceBEq, BEq.rfl, decide_true, decide_false, andL, compW_K, compK_map, ite_KK, ite_PK, ite_KP, ite_PP, ite_some, ite_dint, ite_dbl, ck_opt, ck_opt0, fm_some, fm_if, fm_dec, ck_draw, ck_draw0, ix_tm, ix_lm, ix0, ix1, ix2, ix3, Int.toNat_sub, ← Int.natCast_add, Int.toNat_natCast_add_one, min_m, max_m, min_mc, max_mc, sum_m, all_m, any_m, zip_m, enm_m, frs_mapf, mc_pp, mc_draw, getI_nat, inb_nat, List.length_map, List.length_range, List.mem_range, List.length_zip, List.length_append, wfor_map, decide_eq_true_eq, reduceCtorEq, eqOk_intT, eqOk_blT, nc_one, nc_suc, nc_pre, nc_pre2, nc_sub, cast_sub1, cast_sub2, e_intN, e_blN, beq_iff_eq, Bool.and_true, Bool.true_and, Bool.and_false, Bool.false_and])
  refine ⟨by rfl, fun x px y py => ?_⟩
  have cx := px.curve n1 (by omega) (by omega)
  have cy := py.curve n1 (by omega) (by omega)
  have pc := px.closed n1
  have cc := pc.curve n1 (by omega) (by omega)
  have lx := px.len
  have ly := py.len
  have lc := pc.len
  have hcc : Cl (closed x) := cl_of pc n1 (closed_cl px n1)
  have lyx : y.length = x.length := by omega
  have lyc : y.length = (closed x).length := by omega
  have nn : 1 ≤ n ∧ n ≤ 12 := ⟨n1, n2⟩
  have nn' : 1 ≤ n ∧ n ≤ 60 := ⟨n1, by omega⟩
  (simp only [cr_eq _ _ nn px, clos_eq _ _ cx, sr_eq _ _ nn py pc hcc, bnd_eq _ _ cy cx lyx, bnd_eq _ _ cy cc lyc, ← bnd_closed py px n1, frs_int, v_var, v_int, v_bl, v_non, v_str, v_glo, v_bin, v_neg, v_cmp, v_chain, v_and, v_or, v_not, v_ite, v_tup, v_lst, v_dnew, v_idx, v_sl, v_rev, v_call, v_blt, v_isi, v_said, v_lc, vs_nil, vs_cons, vO_none, vO_some, vC_none, vC_some, va_one, va_cons, vo_one, vo_cons, w_asg, w_mov, w_lcs, w_par, w_par3, w_app, w_set, w_aug, w_ret, w_retL, w_retA, w_movA, w_retv, w_retN, w_ife, w_whl, w_fr, w_frL, w_expr, w_rse, w_pas, w_brk, w_cnt, ws_nil, ws_cons, restr, frzL, augW, optV_some, getV_some, intV_int, blV_bl, ownV_lst, entry, List.map_cons, List.map_nil, List.length_cons, List.length_nil, endPost, List.getElem?_cons_zero, List.getElem?_cons_succ, List.cons_append, List.nil_append, Wk.fr, Wk.frs, b_add, b_sub, b_mul, b_div, b_mod, b_pow, b_addT, b_addL, b_mulL, b_mulT, q_lt, q_le, q_gt, q_ge, q_eq, q_ne, q_isN, q_isnN, l_tup, l_lst, l_scr, r_tup, r_lst, a_lenT, a_lenL, a_abs, a_int, a_tupT, a_tupL, a_lstT, a_lstL, a_min2, a_max2, s_seqT, s_seqL, rng_m, rng2_m, s_enm, s_zipT, s_zipL, t_name, t_tupT, t_tupL, t_nil, t_cons, u_bl, u_int, u_tup, u_lst, isiD, ty_int_int, ty_int_bool, ty_int_str, ty_int_tuple, ty_int_list, ty_int_dict, ty_bool_int, ty_bool_bool, ty_bool_str, ty_bool_tuple, ty_bool_list, ty_bool_dict, ty_str_int, ty_str_bool, ty_str_str, ty_str_tuple, ty_str_list, ty_str_dict, ty_tuple_int, ty_tuple_bool, ty_tuple_str, ty_tuple_tuple, ty_tuple_list, ty_tuple_dict, ty_list_int, ty_list_bool, ty_list_str, ty_list_tuple, ty_list_list, ty_list_dict, ty_dict_int, ty_dict_bool, ty_dict_str, ty_dict_tuple, ty_dict_list, ty_dict_dict, Bool.not_true, Bool.not_false, Bool.or_false, Bool.false_or, Bool.or_true, Bool.true_or, List.set_cons_zero, List.set_cons_succ, wipeE, Nat.zero_add, Nat.reduceAdd, Nat.reduceSub, List.replicate_succ, List.replicate_zero, Option.bind_some, if_true, Int.toNat_natCast, ne0_1, ne0_2, ne0_3, ne0_4, true_and, and_true, Option.map_some, if_false, n_non, n_bl, n_int, n_str, n_tup, n_lst, Bool.false_eq_true, List.contains_cons, List.contains_nil, Nat.reduceBEq, BEq.rfl, decide_true, decide_false, andL, compW_K, compK_map, ite_KK, ite_PK, ite_KP, ite_PP, ite_some, ite_dint, ite_dbl, ck_opt, ck_opt0, fm_some, fm_if, fm_dec, ck_draw, ck_draw0, ix_tm, ix_lm, ix0, ix1, ix2, ix3, Int.toNat_sub, ← Int.natCast_add, Int.toNat_natCast_add_one, min_m, max_m, min_mc, max_mc, sum_m, all_m, any_m, zip_m, enm_m, frs_mapf, mc_pp, mc_draw, getI_nat, inb_nat, List.length_map, List.length_range, List.mem_range, List.length_zip, List.length_append, wfor_map, decide_eq_true_eq, reduceCtorEq, eqOk_intT, eqOk_blT, nc_one, nc_suc, nc_pre, nc_pre2, nc_sub, cast_sub1, cast_sub2, e_intN, e_blN, beq_iff_eq, Bool.and_true, Bool.true_and, Bool.and_false, Bool.false_and]; try simp only [cr_eq _ _ nn px, clos_eq _ _ cx, sr_eq _ _ nn py pc hcc, bnd_eq _ _ cy cx lyx, bnd_eq _ _ cy cc lyc, ← bnd_closed py px n1, frs_int, v_var, v_int, v_bl, v_non, v_str, v_glo, v_bin, v_neg, v_cmp, v_chain, v_and, v_or, v_not, v_ite, v_tup, v_lst, v_dnew, v_idx, v_sl, v_rev, v_call, v_blt, v_isi, v_said, v_lc, vs_nil, vs_cons, vO_none, vO_some, vC_none, vC_some, va_one, va_cons, vo_one, vo_cons, w_asg, w_mov, w_lcs, w_par, w_par3, w_app, w_set, w_aug, w_ret, w_retL, w_retA, w_movA, w_retv, w_retN, w_ife, w_whl, w_fr, w_frL, w_expr, w_rse, w_pas, w_brk, w_cnt, ws_nil, ws_cons, restr, frzL, augW, optV_some, getV_some, intV_int, blV_bl, ownV_lst, entry, List.map_cons, List.map_nil, List.length_cons, List.length_nil, endPost, List.getElem?_cons_zero, List.getElem?_cons_succ, List.cons_append, List.nil_append, Wk.fr, Wk.frs, b_add, b_sub, b_mul, b_div, b_mod, b_pow, b_addT, b_addL, b_mulL, b_mulT, q_lt, q_le, q_gt, q_ge, q_eq, q_ne, q_isN, q_isnN, l_tup, l_lst, l_scr, r_tup, r_lst, a_lenT, a_lenL, a_abs, a_int, a_tupT, a_tupL, a_lstT, a_lstL, a_min2, a_max2, s_seqT, s_seqL, rng_m, rng2_m, s_enm, s_zipT, s_zipL, t_name, t_tupT, t_tupL, t_nil, t_cons, u_bl, u_int, u_tup, u_lst, isiD, ty_int_int, ty_int_bool, ty_int_str, ty_int_tuple, ty_int_list, ty_int_dict, ty_bool_int, ty_bool_bool, ty_bool_str, ty_bool_tuple, ty_bool_list, ty_bool_dict, ty_str_int, ty_str_bool, ty_str_str, ty_str_tuple, ty_str_list, ty_str_dict, ty_tuple_int, ty_tuple_bool, ty_tuple_str, ty_tuple_tuple, ty_tuple_list, ty_tuple_dict, ty_list_int, ty_list_bool, ty_list_str, ty_list_tuple, ty_list_list, ty_list_dict, ty_dict_int, ty_dict_bool, ty_dict_str, ty_dict_tuple, ty_dict_list, ty_dict_dict, Bool.not_true, Bool.not_false, Bool.or_false, Bool.false_or, Bool.or_true, Bool.true_or, List.set_cons_zero, List.set_cons_succ, wipeE, Nat.zero_add, Nat.reduceAdd, Nat.reduceSub, List.replicate_succ, List.replicate_zero, Option.bind_some, if_true, Int.toNat_natCast, ne0_1, ne0_2, ne0_3, ne0_4, true_and, and_true, Option.map_some, if_false, n_non, n_bl, n_int, n_str, n_tup, n_lst, Bool.false_eq_true, List.contains_cons, List.contains_nil, Nat.reduceBEq, BEq.rfl, decide_true, decide_false, andL, compW_K, compK_map, ite_KK, ite_PK, ite_KP, ite_PP, ite_some, ite_dint, ite_dbl, ck_opt, ck_opt0, fm_some, fm_if, fm_dec, ck_draw, ck_draw0, ix_tm, ix_lm, ix0, ix1, ix2, ix3, Int.toNat_sub, ← Int.natCast_add, Int.toNat_natCast_add_one, min_m, max_m, min_mc, max_mc, sum_m, all_m, any_m, zip_m, enm_m, frs_mapf, mc_pp, mc_draw, getI_nat, inb_nat, List.length_map, List.length_range, List.mem_range, List.length_zip, List.length_append, wfor_map, decide_eq_true_eq, reduceCtorEq, eqOk_intT, eqOk_blT, nc_one, nc_suc, nc_pre, nc_pre2, nc_sub, cast_sub1, cast_sub2, e_intN, e_blN, beq_iff_eq, Bool.and_true, Bool.true_and, Bool.and_false, Bool.false_and])
  refine ⟨by simp [Wk.cl, Wk.cls, cls_int], ⟨by omega, fun b b0 b1 => ⟨by omega, fun r r0 r1 => ⟨by omega, fun l l0 l1 => ⟨by simp [Wk.cl], ?_⟩⟩⟩⟩⟩
  have pp := poured_P n2 b0 (show b ≤ 9 by omega) r0 (show r ≤ 5 by omega)
  have ps := served_P (b := 1 + l) n2 (by omega) r0 (show r ≤ 5 by omega)
  have p0 := served_P (b := 0) n2 (by omega) r0 (show r ≤ 5 by omega)
  have cp := pp.curve n1 (by omega) (by omega)
  have cs := ps.curve n1 (by omega) (by omega)
  have c0 := p0.curve n1 (by omega) (by omega)
  have ep := closed_of pp n1 (poured_0 n1) (fun a c h => poured_sub b0 a c h)
  have e0 := closed_of p0 n1 (served_0 n1 (by omega)) (fun a c h => straight_sub a c h)
  have ez := late_zero (b := 1 + l) n2 n1 (by omega) r0 (show r ≤ 5 by omega)
  (simp only [pour_eq _ _ (show 0 ≤ b ∧ b ≤ 1000 by omega) (show 0 ≤ r ∧ r ≤ 1000 by omega) nn', serv_eq _ _ (show 0 ≤ 1 + l ∧ 1 + l ≤ 60 by omega) (show 0 ≤ r ∧ r ≤ 1000 by omega) nn', serv_eq _ _ (show (0 : Int) ≤ 0 ∧ (0 : Int) ≤ 60 by omega) (show 0 ≤ r ∧ r ≤ 1000 by omega) nn', clos_eq _ _ cp, clos_eq _ _ cs, clos_eq _ _ c0, ep, e0, ez, sr_eq _ _ nn py pp (cl_of pp n1 ep), rep_int, frs_int, cl_cv, eqD_cvs, eqOk_cv, closL_eq _ _ cx, v_var, v_int, v_bl, v_non, v_str, v_glo, v_bin, v_neg, v_cmp, v_chain, v_and, v_or, v_not, v_ite, v_tup, v_lst, v_dnew, v_idx, v_sl, v_rev, v_call, v_blt, v_isi, v_said, v_lc, vs_nil, vs_cons, vO_none, vO_some, vC_none, vC_some, va_one, va_cons, vo_one, vo_cons, w_asg, w_mov, w_lcs, w_par, w_par3, w_app, w_set, w_aug, w_ret, w_retL, w_retA, w_movA, w_retv, w_retN, w_ife, w_whl, w_fr, w_frL, w_expr, w_rse, w_pas, w_brk, w_cnt, ws_nil, ws_cons, restr, frzL, augW, optV_some, getV_some, intV_int, blV_bl, ownV_lst, entry, List.map_cons, List.map_nil, List.length_cons, List.length_nil, endPost, List.getElem?_cons_zero, List.getElem?_cons_succ, List.cons_append, List.nil_append, Wk.fr, Wk.frs, b_add, b_sub, b_mul, b_div, b_mod, b_pow, b_addT, b_addL, b_mulL, b_mulT, q_lt, q_le, q_gt, q_ge, q_eq, q_ne, q_isN, q_isnN, l_tup, l_lst, l_scr, r_tup, r_lst, a_lenT, a_lenL, a_abs, a_int, a_tupT, a_tupL, a_lstT, a_lstL, a_min2, a_max2, s_seqT, s_seqL, rng_m, rng2_m, s_enm, s_zipT, s_zipL, t_name, t_tupT, t_tupL, t_nil, t_cons, u_bl, u_int, u_tup, u_lst, isiD, ty_int_int, ty_int_bool, ty_int_str, ty_int_tuple, ty_int_list, ty_int_dict, ty_bool_int, ty_bool_bool, ty_bool_str, ty_bool_tuple, ty_bool_list, ty_bool_dict, ty_str_int, ty_str_bool, ty_str_str, ty_str_tuple, ty_str_list, ty_str_dict, ty_tuple_int, ty_tuple_bool, ty_tuple_str, ty_tuple_tuple, ty_tuple_list, ty_tuple_dict, ty_list_int, ty_list_bool, ty_list_str, ty_list_tuple, ty_list_list, ty_list_dict, ty_dict_int, ty_dict_bool, ty_dict_str, ty_dict_tuple, ty_dict_list, ty_dict_dict, Bool.not_true, Bool.not_false, Bool.or_false, Bool.false_or, Bool.or_true, Bool.true_or, List.set_cons_zero, List.set_cons_succ, wipeE, Nat.zero_add, Nat.reduceAdd, Nat.reduceSub, List.replicate_succ, List.replicate_zero, Option.bind_some, if_true, Int.toNat_natCast, ne0_1, ne0_2, ne0_3, ne0_4, true_and, and_true, Option.map_some, if_false, n_non, n_bl, n_int, n_str, n_tup, n_lst, Bool.false_eq_true, List.contains_cons, List.contains_nil, Nat.reduceBEq, BEq.rfl, decide_true, decide_false, andL, compW_K, compK_map, ite_KK, ite_PK, ite_KP, ite_PP, ite_some, ite_dint, ite_dbl, ck_opt, ck_opt0, fm_some, fm_if, fm_dec, ck_draw, ck_draw0, ix_tm, ix_lm, ix0, ix1, ix2, ix3, Int.toNat_sub, ← Int.natCast_add, Int.toNat_natCast_add_one, min_m, max_m, min_mc, max_mc, sum_m, all_m, any_m, zip_m, enm_m, frs_mapf, mc_pp, mc_draw, getI_nat, inb_nat, List.length_map, List.length_range, List.mem_range, List.length_zip, List.length_append, wfor_map, decide_eq_true_eq, reduceCtorEq, eqOk_intT, eqOk_blT, nc_one, nc_suc, nc_pre, nc_pre2, nc_sub, cast_sub1, cast_sub2, e_intN, e_blN, beq_iff_eq, Bool.and_true, Bool.true_and, Bool.and_false, Bool.false_and]; try simp only [pour_eq _ _ (show 0 ≤ b ∧ b ≤ 1000 by omega) (show 0 ≤ r ∧ r ≤ 1000 by omega) nn', serv_eq _ _ (show 0 ≤ 1 + l ∧ 1 + l ≤ 60 by omega) (show 0 ≤ r ∧ r ≤ 1000 by omega) nn', serv_eq _ _ (show (0 : Int) ≤ 0 ∧ (0 : Int) ≤ 60 by omega) (show 0 ≤ r ∧ r ≤ 1000 by omega) nn', clos_eq _ _ cp, clos_eq _ _ cs, clos_eq _ _ c0, ep, e0, ez, sr_eq _ _ nn py pp (cl_of pp n1 ep), rep_int, frs_int, cl_cv, eqD_cvs, eqOk_cv, closL_eq _ _ cx, v_var, v_int, v_bl, v_non, v_str, v_glo, v_bin, v_neg, v_cmp, v_chain, v_and, v_or, v_not, v_ite, v_tup, v_lst, v_dnew, v_idx, v_sl, v_rev, v_call, v_blt, v_isi, v_said, v_lc, vs_nil, vs_cons, vO_none, vO_some, vC_none, vC_some, va_one, va_cons, vo_one, vo_cons, w_asg, w_mov, w_lcs, w_par, w_par3, w_app, w_set, w_aug, w_ret, w_retL, w_retA, w_movA, w_retv, w_retN, w_ife, w_whl, w_fr, w_frL, w_expr, w_rse, w_pas, w_brk, w_cnt, ws_nil, ws_cons, restr, frzL, augW, optV_some, getV_some, intV_int, blV_bl, ownV_lst, entry, List.map_cons, List.map_nil, List.length_cons, List.length_nil, endPost, List.getElem?_cons_zero, List.getElem?_cons_succ, List.cons_append, List.nil_append, Wk.fr, Wk.frs, b_add, b_sub, b_mul, b_div, b_mod, b_pow, b_addT, b_addL, b_mulL, b_mulT, q_lt, q_le, q_gt, q_ge, q_eq, q_ne, q_isN, q_isnN, l_tup, l_lst, l_scr, r_tup, r_lst, a_lenT, a_lenL, a_abs, a_int, a_tupT, a_tupL, a_lstT, a_lstL, a_min2, a_max2, s_seqT, s_seqL, rng_m, rng2_m, s_enm, s_zipT, s_zipL, t_name, t_tupT, t_tupL, t_nil, t_cons, u_bl, u_int, u_tup, u_lst, isiD, ty_int_int, ty_int_bool, ty_int_str, ty_int_tuple, ty_int_list, ty_int_dict, ty_bool_int, ty_bool_bool, ty_bool_str, ty_bool_tuple, ty_bool_list, ty_bool_dict, ty_str_int, ty_str_bool, ty_str_str, ty_str_tuple, ty_str_list, ty_str_dict, ty_tuple_int, ty_tuple_bool, ty_tuple_str, ty_tuple_tuple, ty_tuple_list, ty_tuple_dict, ty_list_int, ty_list_bool, ty_list_str, ty_list_tuple, ty_list_list, ty_list_dict, ty_dict_int, ty_dict_bool, ty_dict_str, ty_dict_tuple, ty_dict_list, ty_dict_dict, Bool.not_true, Bool.not_false, Bool.or_false, Bool.false_or, Bool.or_true, Bool.true_or, List.set_cons_zero, List.set_cons_succ, wipeE, Nat.zero_add, Nat.reduceAdd, Nat.reduceSub, List.replicate_succ, List.replicate_zero, Option.bind_some, if_true, Int.toNat_natCast, ne0_1, ne0_2, ne0_3, ne0_4, true_and, and_true, Option.map_some, if_false, n_non, n_bl, n_int, n_str, n_tup, n_lst, Bool.false_eq_true, List.contains_cons, List.contains_nil, Nat.reduceBEq, BEq.rfl, decide_true, decide_false, andL, compW_K, compK_map, ite_KK, ite_PK, ite_KP, ite_PP, ite_some, ite_dint, ite_dbl, ck_opt, ck_opt0, fm_some, fm_if, fm_dec, ck_draw, ck_draw0, ix_tm, ix_lm, ix0, ix1, ix2, ix3, Int.toNat_sub, ← Int.natCast_add, Int.toNat_natCast_add_one, min_m, max_m, min_mc, max_mc, sum_m, all_m, any_m, zip_m, enm_m, frs_mapf, mc_pp, mc_draw, getI_nat, inb_nat, List.length_map, List.length_range, List.mem_range, List.length_zip, List.length_append, wfor_map, decide_eq_true_eq, reduceCtorEq, eqOk_intT, eqOk_blT, nc_one, nc_suc, nc_pre, nc_pre2, nc_sub, cast_sub1, cast_sub2, e_intN, e_blN, beq_iff_eq, Bool.and_true, Bool.true_and, Bool.and_false, Bool.false_and])
  have F := fin n n1 n2 x y px py (some (cv (servedF 0 r n))) (some (.bl (decide (closed x = x)))) none none none (some (.int b)) (some (.int r)) (some (.int (1 + l))) (some (cv (poured b r n))) (some (cv (servedF (1 + l) r n)))
  by_cases hc : closed x = x
  · have hx := cl_of px n1 hc
    simp only [hc, decide_true] at F ⊢
    simp only [shap_eq _ _ cy cx lyx hx, v_var, v_int, v_bl, v_non, v_str, v_glo, v_bin, v_neg, v_cmp, v_chain, v_and, v_or, v_not, v_ite, v_tup, v_lst, v_dnew, v_idx, v_sl, v_rev, v_call, v_blt, v_isi, v_said, v_lc, vs_nil, vs_cons, vO_none, vO_some, vC_none, vC_some, va_one, va_cons, vo_one, vo_cons, w_asg, w_mov, w_lcs, w_par, w_par3, w_app, w_set, w_aug, w_ret, w_retL, w_retA, w_movA, w_retv, w_retN, w_ife, w_whl, w_fr, w_frL, w_expr, w_rse, w_pas, w_brk, w_cnt, ws_nil, ws_cons, restr, frzL, augW, optV_some, getV_some, intV_int, blV_bl, ownV_lst, entry, List.map_cons, List.map_nil, List.length_cons, List.length_nil, endPost, List.getElem?_cons_zero, List.getElem?_cons_succ, List.cons_append, List.nil_append, Wk.fr, Wk.frs, b_add, b_sub, b_mul, b_div, b_mod, b_pow, b_addT, b_addL, b_mulL, b_mulT, q_lt, q_le, q_gt, q_ge, q_eq, q_ne, q_isN, q_isnN, l_tup, l_lst, l_scr, r_tup, r_lst, a_lenT, a_lenL, a_abs, a_int, a_tupT, a_tupL, a_lstT, a_lstL, a_min2, a_max2, s_seqT, s_seqL, rng_m, rng2_m, s_enm, s_zipT, s_zipL, t_name, t_tupT, t_tupL, t_nil, t_cons, u_bl, u_int, u_tup, u_lst, isiD, ty_int_int, ty_int_bool, ty_int_str, ty_int_tuple, ty_int_list, ty_int_dict, ty_bool_int, ty_bool_bool, ty_bool_str, ty_bool_tuple, ty_bool_list, ty_bool_dict, ty_str_int, ty_str_bool, ty_str_str, ty_str_tuple, ty_str_list, ty_str_dict, ty_tuple_int, ty_tuple_bool, ty_tuple_str, ty_tuple_tuple, ty_tuple_list, ty_tuple_dict, ty_list_int, ty_list_bool, ty_list_str, ty_list_tuple, ty_list_list, ty_list_dict, ty_dict_int, ty_dict_bool, ty_dict_str, ty_dict_tuple, ty_dict_list, ty_dict_dict, Bool.not_true, Bool.not_false, Bool.or_false, Bool.false_or, Bool.or_true, Bool.true_or, List.set_cons_zero, List.set_cons_succ, wipeE, Nat.zero_add, Nat.reduceAdd, Nat.reduceSub, List.replicate_succ, List.replicate_zero, Option.bind_some, if_true, Int.toNat_natCast, ne0_1, ne0_2, ne0_3, ne0_4, true_and, and_true, Option.map_some, if_false, n_non, n_bl, n_int, n_str, n_tup, n_lst, Bool.false_eq_true, List.contains_cons, List.contains_nil, Nat.reduceBEq, BEq.rfl, decide_true, decide_false, andL, compW_K, compK_map, ite_KK, ite_PK, ite_KP, ite_PP, ite_some, ite_dint, ite_dbl, ck_opt, ck_opt0, fm_some, fm_if, fm_dec, ck_draw, ck_draw0, ix_tm, ix_lm, ix0, ix1, ix2, ix3, Int.toNat_sub, ← Int.natCast_add, Int.toNat_natCast_add_one, min_m, max_m, min_mc, max_mc, sum_m, all_m, any_m, zip_m, enm_m, frs_mapf, mc_pp, mc_draw, getI_nat, inb_nat, List.length_map, List.length_range, List.mem_range, List.length_zip, List.length_append, wfor_map, decide_eq_true_eq, reduceCtorEq, eqOk_intT, eqOk_blT, nc_one, nc_suc, nc_pre, nc_pre2, nc_sub, cast_sub1, cast_sub2, e_intN, e_blN, beq_iff_eq, Bool.and_true, Bool.true_and, Bool.and_false, Bool.false_and]
    split
    · exact ⟨⟨⟨⟨by omega, by omega⟩, by omega⟩, rfl⟩, F⟩
    · exact ⟨rfl, F⟩
  · have hx : ¬ Cl x := fun h => hc h.2
    simp only [hc, decide_false] at F ⊢
    simp only [no_eq _ _ cy cx lyx hx, ms_err, v_var, v_int, v_bl, v_non, v_str, v_glo, v_bin, v_neg, v_cmp, v_chain, v_and, v_or, v_not, v_ite, v_tup, v_lst, v_dnew, v_idx, v_sl, v_rev, v_call, v_blt, v_isi, v_said, v_lc, vs_nil, vs_cons, vO_none, vO_some, vC_none, vC_some, va_one, va_cons, vo_one, vo_cons, w_asg, w_mov, w_lcs, w_par, w_par3, w_app, w_set, w_aug, w_ret, w_retL, w_retA, w_movA, w_retv, w_retN, w_ife, w_whl, w_fr, w_frL, w_expr, w_rse, w_pas, w_brk, w_cnt, ws_nil, ws_cons, restr, frzL, augW, optV_some, getV_some, intV_int, blV_bl, ownV_lst, entry, List.map_cons, List.map_nil, List.length_cons, List.length_nil, endPost, List.getElem?_cons_zero, List.getElem?_cons_succ, List.cons_append, List.nil_append, Wk.fr, Wk.frs, b_add, b_sub, b_mul, b_div, b_mod, b_pow, b_addT, b_addL, b_mulL, b_mulT, q_lt, q_le, q_gt, q_ge, q_eq, q_ne, q_isN, q_isnN, l_tup, l_lst, l_scr, r_tup, r_lst, a_lenT, a_lenL, a_abs, a_int, a_tupT, a_tupL, a_lstT, a_lstL, a_min2, a_max2, s_seqT, s_seqL, rng_m, rng2_m, s_enm, s_zipT, s_zipL, t_name, t_tupT, t_tupL, t_nil, t_cons, u_bl, u_int, u_tup, u_lst, isiD, ty_int_int, ty_int_bool, ty_int_str, ty_int_tuple, ty_int_list, ty_int_dict, ty_bool_int, ty_bool_bool, ty_bool_str, ty_bool_tuple, ty_bool_list, ty_bool_dict, ty_str_int, ty_str_bool, ty_str_str, ty_str_tuple, ty_str_list, ty_str_dict, ty_tuple_int, ty_tuple_bool, ty_tuple_str, ty_tuple_tuple, ty_tuple_list, ty_tuple_dict, ty_list_int, ty_list_bool, ty_list_str, ty_list_tuple, ty_list_list, ty_list_dict, ty_dict_int, ty_dict_bool, ty_dict_str, ty_dict_tuple, ty_dict_list, ty_dict_dict, Bool.not_true, Bool.not_false, Bool.or_false, Bool.false_or, Bool.or_true, Bool.true_or, List.set_cons_zero, List.set_cons_succ, wipeE, Nat.zero_add, Nat.reduceAdd, Nat.reduceSub, List.replicate_succ, List.replicate_zero, Option.bind_some, if_true, Int.toNat_natCast, ne0_1, ne0_2, ne0_3, ne0_4, true_and, and_true, Option.map_some, if_false, n_non, n_bl, n_int, n_str, n_tup, n_lst, Bool.false_eq_true, List.contains_cons, List.contains_nil, Nat.reduceBEq, BEq.rfl, decide_true, decide_false, andL, compW_K, compK_map, ite_KK, ite_PK, ite_KP, ite_PP, ite_some, ite_dint, ite_dbl, ck_opt, ck_opt0, fm_some, fm_if, fm_dec, ck_draw, ck_draw0, ix_tm, ix_lm, ix0, ix1, ix2, ix3, Int.toNat_sub, ← Int.natCast_add, Int.toNat_natCast_add_one, min_m, max_m, min_mc, max_mc, sum_m, all_m, any_m, zip_m, enm_m, frs_mapf, mc_pp, mc_draw, getI_nat, inb_nat, List.length_map, List.length_range, List.mem_range, List.length_zip, List.length_append, wfor_map, decide_eq_true_eq, reduceCtorEq, eqOk_intT, eqOk_blT, nc_one, nc_suc, nc_pre, nc_pre2, nc_sub, cast_sub1, cast_sub2, e_intN, e_blN, beq_iff_eq, Bool.and_true, Bool.true_and, Bool.and_false, Bool.false_and]
    split
    · exact ⟨⟨⟨⟨by omega, by omega⟩, by omega⟩, rfl⟩, F⟩
    · exact ⟨rfl, F⟩
theorem curve4 {xs : List Int} (h1 : 1 ≤ xs.length) (h2 : xs.length ≤ 60) (h3 : ∀ x ∈ xs, 0 ≤ x ∧ x ≤ 1000000) (h4 : ∀ p ∈ xs.zip (xs.drop 1), p.1 ≤ p.2) : Curve xs := ⟨h1, h2, h3, h4⟩
theorem law_a : closed [2, 3, 9, 9] = [0, 3, 6, 9] := by decide
theorem law_b : closed [0, 2, 4] = [0, 2, 4] := by decide
theorem law_c : conv [5, 5, 9] [0, 2, 4] = [5, 5, 7] := by decide
def s_rest : List Wk.S := s_law.drop 1
theorem n23 (h9 : C 9 = cClosed) (h10 : C 10 = cShaped) (h22 : C 22 = cRight) : ∀ ns, wps (GG C k S) s_rest (entry N_law [.scr ns, .hand]) lawPost := by
  intro ns
  have c1 : Curve [2, 3, 9, 9] := curve4 (by decide) (by decide) (by decide) (by decide)
  have c2 : Curve [5, 5, 9] := curve4 (by decide) (by decide) (by decide) (by decide)
  have c3 : Curve [0, 2, 4] := curve4 (by decide) (by decide) (by decide) (by decide)
  have e1 := fun Q Z => clos_eq Q Z c1
  have e2 := fun Q Z => shap_eq Q Z c2 c3 rfl ⟨rfl, law_b⟩
  rw [law_a] at e1
  rw [law_c] at e2
  simp only [cv, List.map_cons, List.map_nil] at e1 e2
  have er := fun (Q : D → Prop) Z => show mc cRight [.hand] Q Z = Q (.bl true) from propext ⟨fun ⟨Q', Z', ⟨_, h⟩, i, _⟩ => i _ h, fun q => mc_iff ⟨rfl, q⟩⟩
  (simp only [s_rest, s_law, N_law, List.drop_succ_cons, List.drop_zero, h9, h10, h22, e1, e2, er, lawPost, v_var, v_int, v_bl, v_non, v_str, v_glo, v_bin, v_neg, v_cmp, v_chain, v_and, v_or, v_not, v_ite, v_tup, v_lst, v_dnew, v_idx, v_sl, v_rev, v_call, v_blt, v_isi, v_said, v_lc, vs_nil, vs_cons, vO_none, vO_some, vC_none, vC_some, va_one, va_cons, vo_one, vo_cons, w_asg, w_mov, w_lcs, w_par, w_par3, w_app, w_set, w_aug, w_ret, w_retL, w_retA, w_movA, w_retv, w_retN, w_ife, w_whl, w_fr, w_frL, w_expr, w_rse, w_pas, w_brk, w_cnt, ws_nil, ws_cons, restr, frzL, augW, optV_some, getV_some, intV_int, blV_bl, ownV_lst, entry, List.map_cons, List.map_nil, List.length_cons, List.length_nil, endPost, List.getElem?_cons_zero, List.getElem?_cons_succ, List.cons_append, List.nil_append, Wk.fr, Wk.frs, b_add, b_sub, b_mul, b_div, b_mod, b_pow, b_addT, b_addL, b_mulL, b_mulT, q_lt, q_le, q_gt, q_ge, q_eq, q_ne, q_isN, q_isnN, l_tup, l_lst, l_scr, r_tup, r_lst, a_lenT, a_lenL, a_abs, a_int, a_tupT, a_tupL, a_lstT, a_lstL, a_min2, a_max2, s_seqT, s_seqL, rng_m, rng2_m, s_enm, s_zipT, s_zipL, t_name, t_tupT, t_tupL, t_nil, t_cons, u_bl, u_int, u_tup, u_lst, isiD, ty_int_int, ty_int_bool, ty_int_str, ty_int_tuple, ty_int_list, ty_int_dict, ty_bool_int, ty_bool_bool, ty_bool_str, ty_bool_tuple, ty_bool_list, ty_bool_dict, ty_str_int, ty_str_bool, ty_str_str, ty_str_tuple, ty_str_list, ty_str_dict, ty_tuple_int, ty_tuple_bool, ty_tuple_str, ty_tuple_tuple, ty_tuple_list, ty_tuple_dict, ty_list_int, ty_list_bool, ty_list_str, ty_list_tuple, ty_list_list, ty_list_dict, ty_dict_int, ty_dict_bool, ty_dict_str, ty_dict_tuple, ty_dict_list, ty_dict_dict, Bool.not_true, Bool.not_false, Bool.or_false, Bool.false_or, Bool.or_true, Bool.true_or, List.set_cons_zero, List.set_cons_succ, wipeE, Nat.zero_add, Nat.reduceAdd, Nat.reduceSub, List.replicate_succ, List.replicate_zero, Option.bind_some, if_true, Int.toNat_natCast, ne0_1, ne0_2, ne0_3, ne0_4, true_and, and_true, Option.map_some, if_false, n_non, n_bl, n_int, n_str, n_tup, n_lst, Bool.false_eq_true, List.contains_cons, List.contains_nil, Nat.reduceBEq, BEq.rfl, decide_true, decide_false, andL, compW_K, compK_map, ite_KK, ite_PK, ite_KP, ite_PP, ite_some, ite_dint, ite_dbl, ck_opt, ck_opt0, fm_some, fm_if, fm_dec, ck_draw, ck_draw0, ix_tm, ix_lm, ix0, ix1, ix2, ix3, Int.toNat_sub, ← Int.natCast_add, Int.toNat_natCast_add_one, min_m, max_m, min_mc, max_mc, sum_m, all_m, any_m, zip_m, enm_m, frs_mapf, mc_pp, mc_draw, getI_nat, inb_nat, List.length_map, List.length_range, List.mem_range, List.length_zip, List.length_append, wfor_map, decide_eq_true_eq, reduceCtorEq, eqOk_intT, eqOk_blT, nc_one, nc_suc, nc_pre, nc_pre2, nc_sub, cast_sub1, cast_sub2, e_intN, e_blN, beq_iff_eq, Bool.and_true, Bool.true_and, Bool.and_false, Bool.false_and]; try simp only [s_rest, s_law, N_law, List.drop_succ_cons, List.drop_zero, h9, h10, h22, e1, e2, er, lawPost, v_var, v_int, v_bl, v_non, v_str, v_glo, v_bin, v_neg, v_cmp, v_chain, v_and, v_or, v_not, v_ite, v_tup, v_lst, v_dnew, v_idx, v_sl, v_rev, v_call, v_blt, v_isi, v_said, v_lc, vs_nil, vs_cons, vO_none, vO_some, vC_none, vC_some, va_one, va_cons, vo_one, vo_cons, w_asg, w_mov, w_lcs, w_par, w_par3, w_app, w_set, w_aug, w_ret, w_retL, w_retA, w_movA, w_retv, w_retN, w_ife, w_whl, w_fr, w_frL, w_expr, w_rse, w_pas, w_brk, w_cnt, ws_nil, ws_cons, restr, frzL, augW, optV_some, getV_some, intV_int, blV_bl, ownV_lst, entry, List.map_cons, List.map_nil, List.length_cons, List.length_nil, endPost, List.getElem?_cons_zero, List.getElem?_cons_succ, List.cons_append, List.nil_append, Wk.fr, Wk.frs, b_add, b_sub, b_mul, b_div, b_mod, b_pow, b_addT, b_addL, b_mulL, b_mulT, q_lt, q_le, q_gt, q_ge, q_eq, q_ne, q_isN, q_isnN, l_tup, l_lst, l_scr, r_tup, r_lst, a_lenT, a_lenL, a_abs, a_int, a_tupT, a_tupL, a_lstT, a_lstL, a_min2, a_max2, s_seqT, s_seqL, rng_m, rng2_m, s_enm, s_zipT, s_zipL, t_name, t_tupT, t_tupL, t_nil, t_cons, u_bl, u_int, u_tup, u_lst, isiD, ty_int_int, ty_int_bool, ty_int_str, ty_int_tuple, ty_int_list, ty_int_dict, ty_bool_int, ty_bool_bool, ty_bool_str, ty_bool_tuple, ty_bool_list, ty_bool_dict, ty_str_int, ty_str_bool, ty_str_str, ty_str_tuple, ty_str_list, ty_str_dict, ty_tuple_int, ty_tuple_bool, ty_tuple_str, ty_tuple_tuple, ty_tuple_list, ty_tuple_dict, ty_list_int, ty_list_bool, ty_list_str, ty_list_tuple, ty_list_list, ty_list_dict, ty_dict_int, ty_dict_bool, ty_dict_str, ty_dict_tuple, ty_dict_list, ty_dict_dict, Bool.not_true, Bool.not_false, Bool.or_false, Bool.false_or, Bool.or_true, Bool.true_or, List.set_cons_zero, List.set_cons_succ, wipeE, Nat.zero_add, Nat.reduceAdd, Nat.reduceSub, List.replicate_succ, List.replicate_zero, Option.bind_some, if_true, Int.toNat_natCast, ne0_1, ne0_2, ne0_3, ne0_4, true_and, and_true, Option.map_some, if_false, n_non, n_bl, n_int, n_str, n_tup, n_lst, Bool.false_eq_true, List.contains_cons, List.contains_nil, Nat.reduceBEq, BEq.rfl, decide_true, decide_false, andL, compW_K, compK_map, ite_KK, ite_PK, ite_KP, ite_PP, ite_some, ite_dint, ite_dbl, ck_opt, ck_opt0, fm_some, fm_if, fm_dec, ck_draw, ck_draw0, ix_tm, ix_lm, ix0, ix1, ix2, ix3, Int.toNat_sub, ← Int.natCast_add, Int.toNat_natCast_add_one, min_m, max_m, min_mc, max_mc, sum_m, all_m, any_m, zip_m, enm_m, frs_mapf, mc_pp, mc_draw, getI_nat, inb_nat, List.length_map, List.length_range, List.mem_range, List.length_zip, List.length_append, wfor_map, decide_eq_true_eq, reduceCtorEq, eqOk_intT, eqOk_blT, nc_one, nc_suc, nc_pre, nc_pre2, nc_sub, cast_sub1, cast_sub2, e_intN, e_blN, beq_iff_eq, Bool.and_true, Bool.true_and, Bool.and_false, Bool.false_and])
  refine ⟨⟨rfl, ⟨rfl, rfl, .inl (by simp [dep, deps])⟩⟩, ?_⟩
  refine (if_neg (by simp [eqD, eqDs])).mpr ⟨⟨by decide, by decide⟩, by simp⟩
end T71
end sec_L71e

section sec_SD71
set_option Elab.async false
set_option linter.all false
set_option maxRecDepth 100000
set_option maxHeartbeats 4000000
namespace T71
open PySem PySem.Spec PyProof.Rows L2 Wk
/-- what the catch asks of the class of the error -/
structure CatchOk (K : PySem.W.Frag) (CW CN : Addr) : Prop where
  c : ExcC K CN
  one : PySem.W.kitOne K (.ref CN) (.ref CN) = some true
  two : PySem.W.kitOne K (.ref CN) (.type "ValueError") = some true
  ex : PySem.W.exmOne K (.ref CN) (.ref CW) = some true
def TTs (CN : Addr) : (XK → Hp → VK → Prop) → Hp → VK → Prop := fun tl H Q => tl (fun cls d H' => cls = .ref CN ∧ d = none ∧ Q (.bl true) H') H (fun _ H' => Q (.bl false) H')
theorem said_gives {X : Cx} {q : Str} {sg : Scope} {g CW CN : Addr} {cdg : Value} {p1 p2 p3 p4 p5 p6 p7 p8 p9 p10 p11 p12 p13 p14 p15 p16 p17 p18 p19 p20 p21 p22 : Pos} {k1 : Nat} (gW : X.mg ("WorkError" : Str) = some (.ref CW)) (gN : X.mg ("NoCurve" : Str) = some (.ref CN)) (gI : X.mg ("isinstance" : Str) = none) (gV : X.mg ("ValueError" : Str) = none) (ok : CatchOk X.K CW CN)
    (l1 : sg.names.lookup ("found" : Str) = some .local) (l2 : sg.names.lookup ("error" : Str) = some .local) (l3 : sg.names.lookup ("WorkError" : Str) = some .globalImplicit) (l4 : sg.names.lookup ("NoCurve" : Str) = some .globalImplicit) (l5 : sg.names.lookup ("isinstance" : Str) = some .globalImplicit) (l6 : sg.names.lookup ("ValueError" : Str) = some .globalImplicit) :
    LamX.GivesTo X N__law_said "_law_said" sg g cdg [.Assign [.Name "found" p1] (.Constant (.bool false) k1 p2) p3,
      .Try [.Expr (.Call (.Name "call" p4) [] [] p5) p6] [.ExceptHandler (some (.Name "WorkError" p7)) (some "error") [.Assign [.Name "found" p8] (.BoolOp .And [.Call (.Name "isinstance" p9) [.Name "error" p10, .Name "NoCurve" p11] [] p12, .Call (.Name "isinstance" p13) [.Name "error" p14, .Name "ValueError" p15] [] p16] p17) p18] p19] [] [] p20,
      .Return (some (.Name "found" p21)) p22] "call" q (TTs CN) := by
  intro f c' s H Q tl act hc h
  have nd : (N__law_said).Nodup := by decide +kernel
  have hY : ∃ Y, Y = (cxOf C8.CX0 X.prog X.w X.K X.mg X.base N__law_said "_law_said" sg g cdg X.A X.stack s H C8.E0).nox := ⟨_, rfl⟩
  obtain ⟨Y, hY⟩ := hY
  have yN : Y.N = N__law_said := by rw [hY]; rfl
  have yS : Y.env.scope = sg := by rw [hY]; rfl
  have yF : Y.fn = fun _ => true := by rw [hY]; rfl
  have yM : Y.mg = X.mg := by rw [hY]; rfl
  have yK : Y.K = X.K := by rw [hY]; rfl
  have s1 := ps_set (X := Y) (pos := p3) (pos' := p1) (i := 1) (x := "found") (e := .Constant (.bool false) k1 p2) (by rw [yN]; exact nd) (by rw [yN]; rfl) (.inl (by rw [yS]; exact l1)) pe_bl rfl (.inl (by rw [yF]))
  have s3 := ps_ret (X := Y) (pos := p22) (pe_var (X := Y) (pos := p21) (i := 1) (x := "found") (by rw [yN]; rfl) (.inl (by rw [yS]; exact l1)) (by decide) (by decide))
  have s2 := ps_try_as (X := Y) (pos := p20) (pos' := p19) (np := p7) (x := "WorkError") (n := "error") (i := 2) (c := .ref CW) (body := [.Expr (.Call (.Name "call" p4) [] [] p5) p6])
      (b₀ := .Assign [.Name "found" p8] (.BoolOp .And [.Call (.Name "isinstance" p9) [.Name "error" p10, .Name "NoCurve" p11] [] p12, .Call (.Name "isinstance" p13) [.Name "error" p14, .Name "ValueError" p15] [] p16] p17) p18) (suite := [])
      (tb := fun W D σ H => ∃ Ech : XK, (∀ cls d σ' H', Ech cls d H' → W cls d σ' H') ∧ σ[0]? = some (some (.ref f)) ∧ H c' = some (LamX.CodeO c' q) ∧ tl Ech H (fun _ H' => D.nx σ H'))
      (ts := fun a cls d D σ H => cls = .ref CN ∧ d = none ∧ (∃ σ0 : L2.St, σ = σ0.set 2 (some (.ref a))) ∧ (σ.length = 3 → D.nx (σ.set 1 (some (.bl true))) H)) (Wout := fun _ _ _ _ => False)
      (by rw [hY]; rfl) (by rw [hY]; rfl) (by rw [yN]; exact nd) (by rw [yN]; rfl) (by show Y.env.scope.names.lookup _ = _; rw [yS]; exact l2) ⟨by show Y.env.scope.names.lookup _ = _; rw [yS]; exact l3, by decide, .inl (by rw [yM]; exact gW)⟩ LamX.takes0 (fun W pn xe tk _ => ?_) (fun a oe cls d pn hz hf => ?_)
  · subst hY
    refine ⟨_, pss_cons s1 (pss_cons s2 (pss_one s3)), ?_⟩
    refine ⟨fun cls d H' => cls = .ref CN ∧ d = none ∧ Q (.bl true) H', fun cls d σ' H' => ?_, ?_⟩
    · rintro ⟨rfl, rfl, hq⟩
      refine ⟨true, ok.ex, fun _ a ha => ⟨rfl, rfl, ⟨σ', rfl⟩, fun hl => ?_⟩, fun z => nomatch z⟩
      have hl' : σ'.length = 3 := by simpa using hl
      refine ⟨.bl true, ?_, hq⟩
      rw [List.getElem?_set_ne (by omega), List.getElem?_set_self (by simp; omega)]
    · refine ⟨rfl, hc, ?_⟩
      have e : (fun (_ : V) H' => Q (.bl false) H') = (fun (_ : V) H' => tRet (tVar 1) { nx := fun _ H' => Q V.non H', rt := Q } (List.set (L2.start N__law_said [V.ref f]) 1 (some (V.bl false))) H') := by
        funext v H'
        refine propext ⟨fun z => ⟨_, rfl, z⟩, fun ⟨_, e, z⟩ => by cases e; exact z⟩
      unfold TTs at h
      rw [e] at h
      exact h
  · subst hY
    refine ⟨fun pins s' σ H' D I h' => ?_⟩
    obtain ⟨Ech, hW, h1, h2, h3⟩ := h'
    have hp := act W pn xe Ech p4 p5 tk hW
    have hq := pss_one (ps_expr (pos := p6) hp)
    exact hq.run pins s' σ H' D I ⟨h1, h2, h3⟩
  · refine ⟨fun pins s' σ H' D I h' => ?_⟩
    obtain ⟨rfl, rfl, h1, h2⟩ := h'
    have hX : ∃ Z, Z = Y.suite a ((a, oe) :: pn) := ⟨_, rfl⟩
    obtain ⟨Z, hZ⟩ := hX
    have zN : Z.N = N__law_said := by rw [hZ]; exact yN
    have zS : Z.env.scope = sg := by rw [hZ]; exact yS
    have zM : Z.mg = X.mg := by rw [hZ]; exact yM
    have zF : Z.fn = fun _ => true := by rw [hZ]; exact yF
    have ci : CallR Z (.builtin "isinstance") (rIsE Z.K CN a) := by rw [hZ]; exact call_isE (by rw [yK]; exact ok.c) hz hf
    have zK : Z.K = X.K := by rw [hZ]; exact yK
    have gi : Gl Z ("isinstance" : Str) := by show Z.env.scope.names.lookup _ = _; rw [zS]; exact l5
    have ve : ∀ p, PE Z (.Name "error" p) (tVar 2) := fun p => pe_var (by rw [zN]; rfl) (.inl (by rw [zS]; exact l2)) (by decide) (by decide)
    have e1 := pe_callB (X := Z) (pos := p12) (p := p9) ci gi (by rw [zM]; exact gI) (by decide +kernel) (pa_cons (ve p10) (pa_cons (pe_glob (X := Z) (x := "NoCurve") (pos := p11) (by show Z.env.scope.names.lookup _ = _; rw [zS]; exact l4) (by rw [zM]; exact gN) (v := .ref CN) rfl (by decide)) pa_nil))
    have e2 := pe_callB (X := Z) (pos := p16) (p := p13) ci gi (by rw [zM]; exact gI) (by decide +kernel) (pa_cons (ve p14) (pa_cons (pe_bltn (X := Z) (x := "ValueError") (pos := p15) (by show Z.env.scope.names.lookup _ = _; rw [zS]; exact l6) (by rw [zM]; exact gV) (u := .type "ValueError") (v := .ty "ValueError") (by decide +kernel) rfl (by decide) (by decide)) pa_nil))
    have st := pss_one (ps_set (X := Z) (pos := p18) (pos' := p8) (i := 1) (x := "found") (by rw [zN]; exact nd) (by rw [zN]; rfl) (.inl (by rw [zS]; exact l1)) (pe_and (pos := p17) e1 (pe_one e2)) rfl (.inl (by rw [zF])))
    subst hZ
    obtain ⟨σ0, rfl⟩ := h1
    have hl : (σ0.set 2 (some (V.ref a))).length = 3 := by
      have := I.len
      rw [zN] at this
      exact this
    have g2 : (σ0.set 2 (some (V.ref a)))[2]? = some (some (.ref a)) := by
      rw [List.getElem?_set_self (by simpa using (by rw [List.length_set] at hl; omega : 2 < σ0.length))]
    refine st.run pins s' _ H' D I ?_
    refine ⟨_, g2, ⟨.ref CN, .ref CN, true, rfl, fun u r => r, by rw [zK]; exact ok.one, true, rfl, ?_⟩⟩
    rw [if_pos rfl]
    exact ⟨_, g2, ⟨.ty "ValueError", .type "ValueError", true, rfl, fun u r => r, by rw [zK]; exact ok.two, h2 hl⟩⟩
end T71
end sec_SD71

section sec_FIN71
set_option Elab.async false
set_option linter.all false
set_option maxRecDepth 100000
set_option maxHeartbeats 0
namespace T71
open PySem PySem.Spec PyProof.Rows L2 Wk
def d_is_integer : He.DefD := ⟨("is_integer", none), "is_integer", "is_integer", defArgs (top 1), defBody (top 1), defScope (top 1), [], []⟩
def d_is_within : He.DefD := ⟨("is_within", none), "is_within", "is_within", defArgs (top 2), defBody (top 2), defScope (top 2), [], []⟩
def d_is_curve : He.DefD := ⟨("is_curve", none), "is_curve", "is_curve", defArgs (top 10), defBody (top 10), defScope (top 10), [], []⟩
def d_check_curves : He.DefD := ⟨("check_curves", none), "check_curves", "check_curves", defArgs (top 11), defBody (top 11), defScope (top 11), [], []⟩
def d_spread : He.DefD := ⟨("spread", none), "spread", "spread", defArgs (top 12), defBody (top 12), defScope (top 12), [], []⟩
def d_bucket : He.DefD := ⟨("bucket", none), "bucket", "bucket", defArgs (top 13), defBody (top 13), defScope (top 13), [], []⟩
def d_served_at : He.DefD := ⟨("served_at", none), "served_at", "served_at", defArgs (top 14), defBody (top 14), defScope (top 14), [], []⟩
def d_is_bounded : He.DefD := ⟨("is_bounded", none), "is_bounded", "is_bounded", defArgs (top 15), defBody (top 15), defScope (top 15), [], []⟩
def d_least_bound : He.DefD := ⟨("least_bound", none), "least_bound", "least_bound", defArgs (top 16), defBody (top 16), defScope (top 16), [], []⟩
def d_closed_curve : He.DefD := ⟨("closed_curve", none), "closed_curve", "closed_curve", defArgs (top 18), defBody (top 18), defScope (top 18), [], []⟩
def d_shaped : He.DefD := ⟨("shaped", none), "shaped", "shaped", defArgs (top 17), defBody (top 17), defScope (top 17), [], []⟩
def d__law_hand : He.DefD := ⟨("_law_hand", none), "_law_hand", "_law_hand", defArgs (top 20), defBody (top 20), defScope (top 20), [], []⟩
def d__law_draw : He.DefD := ⟨("_law_draw", none), "_law_draw", "_law_draw", defArgs (top 21), defBody (top 21), defScope (top 21), [], []⟩
def d__law_any : He.DefD := ⟨("_law_any", none), "_law_any", "_law_any", defArgs (top 22), defBody (top 22), defScope (top 22), [], []⟩
def d__law_is : He.DefD := ⟨("_law_is", none), "_law_is", "_law_is", defArgs (top 23), defBody (top 23), defScope (top 23), [], []⟩
def d__law_curve : He.DefD := ⟨("_law_curve", none), "_law_curve", "_law_curve", defArgs (top 24), defBody (top 24), defScope (top 24), [], []⟩
def d__law_spread : He.DefD := ⟨("_law_spread", none), "_law_spread", "_law_spread", defArgs (top 25), defBody (top 25), defScope (top 25), [], []⟩
def d__law_is_no_more : He.DefD := ⟨("_law_is_no_more", none), "_law_is_no_more", "_law_is_no_more", defArgs (top 26), defBody (top 26), defScope (top 26), [], []⟩
def d__law_said : He.DefD := ⟨("_law_said", none), "_law_said", "_law_said", defArgs (top 27), defBody (top 27), defScope (top 27), [], []⟩
def d__law_closed : He.DefD := ⟨("_law_closed", none), "_law_closed", "_law_closed", defArgs (top 28), defBody (top 28), defScope (top 28), [], []⟩
def d__law_is_closed_right : He.DefD := ⟨("_law_is_closed_right", none), "_law_is_closed_right", "_law_is_closed_right", defArgs (top 29), defBody (top 29), defScope (top 29), [], []⟩
def d__law_is_shaped_right : He.DefD := ⟨("_law_is_shaped_right", none), "_law_is_shaped_right", "_law_is_shaped_right", defArgs (top 30), defBody (top 30), defScope (top 30), [], []⟩
def d__law_is_right : He.DefD := ⟨("_law_is_right", none), "_law_is_right", "_law_is_right", defArgs (top 31), defBody (top 31), defScope (top 31), [], []⟩
def d_law : He.DefD := ⟨("law", none), "law", "law", defArgs (top 32), defBody (top 32), defScope (top 32), [], []⟩
def fn : List He.DefD := [d_is_integer, d_is_within, d_is_curve, d_check_curves, d_spread, d_bucket, d_served_at, d_is_bounded, d_least_bound, d_closed_curve, d_shaped, d__law_hand, d__law_draw, d__law_any, d__law_is, d__law_curve, d__law_spread, d__law_is_no_more, d__law_said, d__law_closed, d__law_is_closed_right, d__law_is_shaped_right, d__law_is_right, d_law]
def fa : List He.Fa := [.free "len", .free "abs", .free "int", .free "tuple", .free "list", .free "min", .free "max", .free "sum", .free "all", .free "any", .free "isinstance", .free "bool", .free "str", .free "dict", .free "range", .free "enumerate", .free "zip", .free "sorted", .free "repr", .free "ValueError", .glo "is_integer", .glo "is_within", .glo "is_curve", .glo "check_curves", .glo "spread", .glo "bucket", .glo "served_at", .glo "is_bounded", .glo "least_bound", .glo "closed_curve", .glo "shaped", .glo "_law_hand", .glo "_law_draw", .glo "_law_any", .glo "_law_is", .glo "_law_curve", .glo "_law_spread", .glo "_law_is_no_more", .glo "_law_said", .glo "_law_closed", .glo "_law_is_closed_right", .glo "_law_is_shaped_right", .glo "_law_is_right", .glo "law", .glo "WorkError", .glo "NoNumber", .glo "NoCurve", .exc "WorkError", .exc "NoNumber", .exc "NoCurve", .int "MOST" 1000000, .int "MOST_LONG" 60]
def lm : List Str := ["_law_is_right"]
def exB (K : PySem.W.Frag) : Bool := let D := He.ga K "NoCurve"; let W := He.ga K "WorkError"
  (He.eqO (PySem.W.findIn K (.ref D) "__getattribute__") (some (some (.builtin "BaseException.__getattribute__"))) && (He.eqO (PySem.W.findIn K (.ref D) "__getattr__") (some none) && (decide (PySem.W.subIn K (.ref D) (.type "BaseException") = some true) && (PySem.W.hasDictIn K D &&
  (He.eqO (PySem.W.findIn K (.ref D) "__class__") (some (some (.builtin "object.__class__"))) && (He.eqO (PySem.W.specialIn K (.builtin "object.__class__") "__get__") (some (some (.builtin "getset_descriptor.__get__"))) && (decide (PySem.W.takesIn K (.builtin "object.__class__") = some true) && (decide (PySem.W.mroIn K D (.type "object") = some true) &&
  (decide (PySem.W.kitOne K (.ref D) (.ref D) = some true) && (decide (PySem.W.kitOne K (.ref D) (.type "ValueError") = some true) && decide (PySem.W.exmOne K (.ref D) (.ref W) = some true)))))))))))
theorem exB_ok {K : PySem.W.Frag} (h : exB K = true) : CatchOk K (He.ga K "WorkError") (He.ga K "NoCurve") := by
  simp only [exB, Bool.and_eq_true, decide_eq_true_eq] at h
  obtain ⟨h1, h2, h3, h4, h5, h6, h7, h8, h9, h10, h11⟩ := h
  exact ⟨⟨He.eqO_ok h1, He.eqO_ok h2, h3, h4, He.eqO_ok h5, He.eqO_ok h6, h7, h8⟩, h9, h10, h11⟩
def Cs (i : Nat) : Con := match i with
  | 0 => c0
  | 1 => c1
  | 2 => c2
  | 3 => c3
  | 4 => cTwo conv
  | 5 => cPour
  | 6 => cServed
  | 7 => cBnd
  | 8 => cLb
  | 9 => cClosed
  | 10 => cShaped
  | 11 => cHand
  | 12 => cDraw
  | 13 => cAny
  | 14 => cIs 1
  | 15 => cCurveM
  | 16 => cOne conv
  | 17 => cLe
  | 18 => noCon
  | 19 => cClosedL
  | 20 => cCR
  | 21 => cSR
  | 22 => cRight
  | _ => noCon
def S0 : Nat → Except Err D → (D → Prop) → Prop := fun _ => cSaid
def C9 (C : Con) (i : Nat) : Con := if i = 14 then C else Cs i
theorem said_tt [Tab] {K : PySem.W.Frag} {mg : Str → Option Value} {CN : Addr} (gN : mg ("NoCurve" : Str) = some (.ref CN)) : SaidTT K mg cSaid (TTs CN) := fun tl H Q F hd g h =>
  h (fun cls d H' => cls = .ref CN ∧ d = none ∧ Q (.bl true) H') (fun _ H' => Q (.bl false) H') (fun d v F' H' T x o r ⟨Q', c, i⟩ => (i _ c) (.bl false) F' H' (fun _ => False) x Own.none rfl)
    (fun z c dx F' H' x er ⟨Q', c', i⟩ => by
      obtain ⟨rfl, c'⟩ := c'
      obtain ⟨⟨C, e1, e2⟩, _, e3⟩ := er
      have e1 : mg ("NoCurve" : Str) = some (.ref C) := e1
      rw [gN] at e1
      cases e1
      exact ⟨e2, e3, (i _ c') (.bl true) F' H' (fun _ => False) x Own.none rfl⟩)
theorem said_all [Tab] {K : PySem.W.Frag} {mg : Str → Option Value} {fd : FuncData} {CW CN : Addr} (F : FunD K d__law_said.name d__law_said.qual d__law_said.params d__law_said.body d__law_said.scope [] (d__law_said.kws K) (He.fAd K d__law_said.at_) fd) (g : mg "_law_said" = some (.ref (He.fAd K d__law_said.at_))) (b : Binds K fd ["call"] [])
    (gW : mg ("WorkError" : Str) = some (.ref CW)) (gN : mg ("NoCurve" : Str) = some (.ref CN)) (gI : mg ("isinstance" : Str) = none) (gV : mg ("ValueError" : Str) = none) (ok : CatchOk K CW CN) : ∀ X : Cx, X.K = K → X.mg = mg → SaidOk X "_law_said" cSaid := by
  intro X hK hM
  subst hK hM
  obtain ⟨oc, od, dV, kV, doc, pm, an, cdv, ct, osl, rfl, h1, h2, _⟩ := F.ex
  exact ⟨"call", _, _, _, _, dV, kV, doc, pm, cdv, ct, oc, an, od, osl, N__law_said, TTs CN, g, F.kp, h1, h2, b, ⟨rfl, rfl, rfl, by decide +kernel, rfl, by decide +kernel, by decide +kernel⟩, rfl, .inl (by decide +kernel), by decide, by decide,
    said_gives gW gN gI gV ok (by decide +kernel) (by decide +kernel) (by decide +kernel) (by decide +kernel) (by decide +kernel) (by decide +kernel), said_tt gN⟩
theorem law_ok {P : Program} {w : World} {K : PySem.W.Frag} {h : Heap} {mg : Str → Option Value} {f : Addr} (X : K.In h) (Gm : h.Ns mainGlobals mg) (hfa : mg ("law" : Str) = some (.ref f)) (c : SaysT fa fn lm exB K h) :
    ∃ fd : FuncData, (∀ (s : Shared) (v : Value), BindsTo s fd ⟨[v], []⟩ [("script", v)]) ∧ ∀ base : Heap, K.In base → base.Ns mainGlobals mg → (∀ p ∈ tabsK K lm, LamX.TabB base mg p.1 p.2) → FnOk P w K mg base (L2.CX P w) 27 f fd ["script"] (@spLaw ⟨tabT K lm⟩ K) := by
  letI : Tab := ⟨tabT K lm⟩
  obtain ⟨fd0, F0⟩ := c.d.def_ 0 (d := d_is_integer) rfl
  have g0 : mg "is_integer" = some (.ref (He.fAd K d_is_integer.at_)) := He.glo_ok X Gm (c.d.fact 20 (f := .glo "is_integer") rfl)
  have b0 : Binds K fd0 ["thing"] [] := F0.bindsN fun _ _ _ _ _ _ us hl => match us, hl with | [_], _ => rfl
  obtain ⟨fd1, F1⟩ := c.d.def_ 1 (d := d_is_within) rfl
  have g1 : mg "is_within" = some (.ref (He.fAd K d_is_within.at_)) := He.glo_ok X Gm (c.d.fact 21 (f := .glo "is_within") rfl)
  have b1 : Binds K fd1 ["thing", "least", "most"] [] := F1.bindsN fun _ _ _ _ _ _ us hl => match us, hl with | [_, _, _], _ => rfl
  obtain ⟨fd2, F2⟩ := c.d.def_ 2 (d := d_is_curve) rfl
  have g2 : mg "is_curve" = some (.ref (He.fAd K d_is_curve.at_)) := He.glo_ok X Gm (c.d.fact 22 (f := .glo "is_curve") rfl)
  have b2 : Binds K fd2 ["thing"] [] := F2.bindsN fun _ _ _ _ _ _ us hl => match us, hl with | [_], _ => rfl
  obtain ⟨fd3, F3⟩ := c.d.def_ 3 (d := d_check_curves) rfl
  have g3 : mg "check_curves" = some (.ref (He.fAd K d_check_curves.at_)) := He.glo_ok X Gm (c.d.fact 23 (f := .glo "check_curves") rfl)
  have b3 : Binds K fd3 ["one", "other"] [] := F3.bindsN fun _ _ _ _ _ _ us hl => match us, hl with | [_, _], _ => rfl
  obtain ⟨fd4, F4⟩ := c.d.def_ 4 (d := d_spread) rfl
  have g4 : mg "spread" = some (.ref (He.fAd K d_spread.at_)) := He.glo_ok X Gm (c.d.fact 24 (f := .glo "spread") rfl)
  have b4 : Binds K fd4 ["one", "other"] [] := F4.bindsN fun _ _ _ _ _ _ us hl => match us, hl with | [_, _], _ => rfl
  obtain ⟨fd5, F5⟩ := c.d.def_ 5 (d := d_bucket) rfl
  have g5 : mg "bucket" = some (.ref (He.fAd K d_bucket.at_)) := He.glo_ok X Gm (c.d.fact 25 (f := .glo "bucket") rfl)
  have b5 : Binds K fd5 ["burst", "rate", "hours"] [] := F5.bindsN fun _ _ _ _ _ _ us hl => match us, hl with | [_, _, _], _ => rfl
  obtain ⟨fd6, F6⟩ := c.d.def_ 6 (d := d_served_at) rfl
  have g6 : mg "served_at" = some (.ref (He.fAd K d_served_at.at_)) := He.glo_ok X Gm (c.d.fact 26 (f := .glo "served_at") rfl)
  have b6 : Binds K fd6 ["late", "rate", "hours"] [] := F6.bindsN fun _ _ _ _ _ _ us hl => match us, hl with | [_, _, _], _ => rfl
  obtain ⟨fd7, F7⟩ := c.d.def_ 7 (d := d_is_bounded) rfl
  have g7 : mg "is_bounded" = some (.ref (He.fAd K d_is_bounded.at_)) := He.glo_ok X Gm (c.d.fact 27 (f := .glo "is_bounded") rfl)
  have b7 : Binds K fd7 ["comes", "curve"] [] := F7.bindsN fun _ _ _ _ _ _ us hl => match us, hl with | [_, _], _ => rfl
  obtain ⟨fd8, F8⟩ := c.d.def_ 8 (d := d_least_bound) rfl
  have g8 : mg "least_bound" = some (.ref (He.fAd K d_least_bound.at_)) := He.glo_ok X Gm (c.d.fact 28 (f := .glo "least_bound") rfl)
  have b8 : Binds K fd8 ["comes"] [] := F8.bindsN fun _ _ _ _ _ _ us hl => match us, hl with | [_], _ => rfl
  obtain ⟨fd9, F9⟩ := c.d.def_ 9 (d := d_closed_curve) rfl
  have g9 : mg "closed_curve" = some (.ref (He.fAd K d_closed_curve.at_)) := He.glo_ok X Gm (c.d.fact 29 (f := .glo "closed_curve") rfl)
  have b9 : Binds K fd9 ["curve"] [] := F9.bindsN fun _ _ _ _ _ _ us hl => match us, hl with | [_], _ => rfl
  obtain ⟨fd10, F10⟩ := c.d.def_ 10 (d := d_shaped) rfl
  have g10 : mg "shaped" = some (.ref (He.fAd K d_shaped.at_)) := He.glo_ok X Gm (c.d.fact 30 (f := .glo "shaped") rfl)
  have b10 : Binds K fd10 ["comes", "curve"] [] := F10.bindsN fun _ _ _ _ _ _ us hl => match us, hl with | [_, _], _ => rfl
  obtain ⟨fd11, F11⟩ := c.d.def_ 11 (d := d__law_hand) rfl
  have g11 : mg "_law_hand" = some (.ref (He.fAd K d__law_hand.at_)) := He.glo_ok X Gm (c.d.fact 31 (f := .glo "_law_hand") rfl)
  have b11 : Binds K fd11 ["script"] [] := F11.bindsN fun _ _ _ _ _ _ us hl => match us, hl with | [_], _ => rfl
  obtain ⟨fd12, F12⟩ := c.d.def_ 12 (d := d__law_draw) rfl
  have g12 : mg "_law_draw" = some (.ref (He.fAd K d__law_draw.at_)) := He.glo_ok X Gm (c.d.fact 32 (f := .glo "_law_draw") rfl)
  have b12 : Binds K fd12 ["hand", "many"] [] := F12.bindsN fun _ _ _ _ _ _ us hl => match us, hl with | [_, _], _ => rfl
  obtain ⟨fd13, F13⟩ := c.d.def_ 13 (d := d__law_any) rfl
  have g13 : mg "_law_any" = some (.ref (He.fAd K d__law_any.at_)) := He.glo_ok X Gm (c.d.fact 33 (f := .glo "_law_any") rfl)
  have b13 : Binds K fd13 ["hand", "some"] [] := F13.bindsN fun _ _ _ _ _ _ us hl => match us, hl with | [_, _], _ => rfl
  obtain ⟨fd14, F14⟩ := c.d.def_ 14 (d := d__law_is) rfl
  have g14 : mg "_law_is" = some (.ref (He.fAd K d__law_is.at_)) := He.glo_ok X Gm (c.d.fact 34 (f := .glo "_law_is") rfl)
  have b14 : Binds K fd14 ["thing", "due"] [] := F14.bindsN fun _ _ _ _ _ _ us hl => match us, hl with | [_, _], _ => rfl
  obtain ⟨fd15, F15⟩ := c.d.def_ 15 (d := d__law_curve) rfl
  have g15 : mg "_law_curve" = some (.ref (He.fAd K d__law_curve.at_)) := He.glo_ok X Gm (c.d.fact 35 (f := .glo "_law_curve") rfl)
  have b15 : Binds K fd15 ["hand", "hours", "most"] [] := F15.bindsN fun _ _ _ _ _ _ us hl => match us, hl with | [_, _, _], _ => rfl
  obtain ⟨fd16, F16⟩ := c.d.def_ 16 (d := d__law_spread) rfl
  have g16 : mg "_law_spread" = some (.ref (He.fAd K d__law_spread.at_)) := He.glo_ok X Gm (c.d.fact 36 (f := .glo "_law_spread") rfl)
  have b16 : Binds K fd16 ["one", "other"] [] := F16.bindsN fun _ _ _ _ _ _ us hl => match us, hl with | [_, _], _ => rfl
  obtain ⟨fd17, F17⟩ := c.d.def_ 17 (d := d__law_is_no_more) rfl
  have g17 : mg "_law_is_no_more" = some (.ref (He.fAd K d__law_is_no_more.at_)) := He.glo_ok X Gm (c.d.fact 37 (f := .glo "_law_is_no_more") rfl)
  have b17 : Binds K fd17 ["one", "other"] [] := F17.bindsN fun _ _ _ _ _ _ us hl => match us, hl with | [_, _], _ => rfl
  obtain ⟨fd18, F18⟩ := c.d.def_ 18 (d := d__law_said) rfl
  have g18 : mg "_law_said" = some (.ref (He.fAd K d__law_said.at_)) := He.glo_ok X Gm (c.d.fact 38 (f := .glo "_law_said") rfl)
  have b18 : Binds K fd18 ["call"] [] := F18.bindsN fun _ _ _ _ _ _ us hl => match us, hl with | [_], _ => rfl
  obtain ⟨fd19, F19⟩ := c.d.def_ 19 (d := d__law_closed) rfl
  have g19 : mg "_law_closed" = some (.ref (He.fAd K d__law_closed.at_)) := He.glo_ok X Gm (c.d.fact 39 (f := .glo "_law_closed") rfl)
  have b19 : Binds K fd19 ["curve"] [] := F19.bindsN fun _ _ _ _ _ _ us hl => match us, hl with | [_], _ => rfl
  obtain ⟨fd20, F20⟩ := c.d.def_ 20 (d := d__law_is_closed_right) rfl
  have g20 : mg "_law_is_closed_right" = some (.ref (He.fAd K d__law_is_closed_right.at_)) := He.glo_ok X Gm (c.d.fact 40 (f := .glo "_law_is_closed_right") rfl)
  have b20 : Binds K fd20 ["hand", "curve"] [] := F20.bindsN fun _ _ _ _ _ _ us hl => match us, hl with | [_, _], _ => rfl
  obtain ⟨fd21, F21⟩ := c.d.def_ 21 (d := d__law_is_shaped_right) rfl
  have g21 : mg "_law_is_shaped_right" = some (.ref (He.fAd K d__law_is_shaped_right.at_)) := He.glo_ok X Gm (c.d.fact 41 (f := .glo "_law_is_shaped_right") rfl)
  have b21 : Binds K fd21 ["hand", "comes", "curve"] [] := F21.bindsN fun _ _ _ _ _ _ us hl => match us, hl with | [_, _, _], _ => rfl
  obtain ⟨fd22, F22⟩ := c.d.def_ 22 (d := d__law_is_right) rfl
  have g22 : mg "_law_is_right" = some (.ref (He.fAd K d__law_is_right.at_)) := He.glo_ok X Gm (c.d.fact 42 (f := .glo "_law_is_right") rfl)
  have b22 : Binds K fd22 ["hand"] [] := F22.bindsN fun _ _ _ _ _ _ us hl => match us, hl with | [_], _ => rfl
  obtain ⟨fd23, F23⟩ := c.d.def_ 23 (d := d_law) rfl
  have g23 : mg "law" = some (.ref (He.fAd K d_law.at_)) := He.glo_ok X Gm (c.d.fact 43 (f := .glo "law") rfl)
  have b23 : Binds K fd23 ["script"] [] := F23.bindsN fun _ _ _ _ _ _ us hl => match us, hl with | [_], _ => rfl
  have e := hfa.symm.trans g23
  cases e
  have bb := FunD.bindsA (ps := ["script"]) F23 fun _ _ _ _ _ _ us hl => match us, hl with | [_], _ => rfl
  refine ⟨fd23, fun s v => bb s [v] rfl, fun base _ _ TB => ?_⟩

  have gWorkError := He.glo_ok X Gm (c.d.fact 44 (f := .glo "WorkError") rfl)
  have xWorkError := He.exc_ok (c.d.fact 47 (f := .exc "WorkError") rfl)
  have gNoNumber := He.glo_ok X Gm (c.d.fact 45 (f := .glo "NoNumber") rfl)
  have xNoNumber := He.exc_ok (c.d.fact 48 (f := .exc "NoNumber") rfl)
  have gNoCurve := He.glo_ok X Gm (c.d.fact 46 (f := .glo "NoCurve") rfl)
  have xNoCurve := He.exc_ok (c.d.fact 49 (f := .exc "NoCurve") rfl)
  have fr0 : ∀ x ∈ freeNames, mg x = none := by
    intro x hx
    simp only [freeNames, List.mem_cons, List.not_mem_nil, or_false] at hx
    rcases hx with rfl | rfl | rfl | rfl | rfl | rfl | rfl | rfl | rfl | rfl | rfl | rfl | rfl | rfl | rfl | rfl | rfl | rfl | rfl
    · exact He.free_ok X Gm (c.d.fact 0 (f := .free "len") rfl)
    · exact He.free_ok X Gm (c.d.fact 1 (f := .free "abs") rfl)
    · exact He.free_ok X Gm (c.d.fact 2 (f := .free "int") rfl)
    · exact He.free_ok X Gm (c.d.fact 3 (f := .free "tuple") rfl)
    · exact He.free_ok X Gm (c.d.fact 4 (f := .free "list") rfl)
    · exact He.free_ok X Gm (c.d.fact 5 (f := .free "min") rfl)
    · exact He.free_ok X Gm (c.d.fact 6 (f := .free "max") rfl)
    · exact He.free_ok X Gm (c.d.fact 7 (f := .free "sum") rfl)
    · exact He.free_ok X Gm (c.d.fact 8 (f := .free "all") rfl)
    · exact He.free_ok X Gm (c.d.fact 9 (f := .free "any") rfl)
    · exact He.free_ok X Gm (c.d.fact 10 (f := .free "isinstance") rfl)
    · exact He.free_ok X Gm (c.d.fact 11 (f := .free "bool") rfl)
    · exact He.free_ok X Gm (c.d.fact 12 (f := .free "str") rfl)
    · exact He.free_ok X Gm (c.d.fact 13 (f := .free "dict") rfl)
    · exact He.free_ok X Gm (c.d.fact 14 (f := .free "range") rfl)
    · exact He.free_ok X Gm (c.d.fact 15 (f := .free "enumerate") rfl)
    · exact He.free_ok X Gm (c.d.fact 16 (f := .free "zip") rfl)
    · exact He.free_ok X Gm (c.d.fact 17 (f := .free "sorted") rfl)
    · exact He.free_ok X Gm (c.d.fact 18 (f := .free "repr") rfl)
  have cn0 : ∀ x i, conF x = some i → ∃ t, mg x = some (.int i t) := by
    intro x i hx
    unfold conF at hx
    split at hx
    · rename_i e
      subst e
      cases hx
      exact He.int_ok X Gm (c.d.fact 50 (f := .int "MOST" 1000000) rfl)
    · skip
      split at hx
      · rename_i e
        subst e
        cases hx
        exact He.int_ok X Gm (c.d.fact 51 (f := .int "MOST_LONG" 60) rfl)
      · skip
        cases hx
  have md0 : Md P w K mg base (GG Cs 0 S0) 0 clsL := ⟨fr0, cn0, fun f hf => absurd hf (Nat.not_lt_zero f), fun f hf => absurd hf (Nat.not_lt_zero f), fun y hy => by
    simp only [clsL, List.mem_cons, List.not_mem_nil, or_false] at hy
    rcases hy with rfl | rfl | rfl
    · exact ⟨_, _, _, _, _, PySem.F.excBase_ValueError, xWorkError.1, gWorkError, xWorkError.2.1, xWorkError.2.2.1, xWorkError.2.2.2⟩
    · exact ⟨_, _, _, _, _, PySem.F.excBase_ValueError, xNoNumber.1, gNoNumber, xNoNumber.2.1, xNoNumber.2.2.1, xNoNumber.2.2.2⟩
    · exact ⟨_, _, _, _, _, PySem.F.excBase_ValueError, xNoCurve.1, gNoCurve, xNoCurve.2.1, xNoCurve.2.2.1, xNoCurve.2.2.2⟩⟩
  have ok0 := fn_ok (G := GG Cs 0 S0) md0 F0 f_is_integer s_is_integer (k_is_integer Cs 0 S0) (C := Cs 0) (m0 Cs S0 0 )
  have md1 := md0.succ (G' := GG Cs 1 S0) rfl rfl rfl (fun _ _ => rfl) (by decide) (callOk_of F0 g0 b0 (Nat.le_refl _) ok0)
  have ok1 := fn_ok (G := GG Cs 1 S0) md1 F1 f_is_within s_is_within (k_is_within Cs 1 S0) (C := Cs 1) (m1 Cs S0 1 rfl)
  have md2 := md1.succ (G' := GG Cs 2 S0) rfl rfl rfl (fun _ _ => rfl) (by decide) (callOk_of F1 g1 b1 (Nat.le_refl _) ok1)
  have ok2 := fn_ok (G := GG Cs 2 S0) md2 F2 f_is_curve s_is_curve (k_is_curve Cs 2 S0) (C := Cs 2) (m2 Cs S0 2 rfl)
  have md3 := md2.succ (G' := GG Cs 3 S0) rfl rfl rfl (fun _ _ => rfl) (by decide) (callOk_of F2 g2 b2 (Nat.le_refl _) ok2)
  have ok3 := fn_ok (G := GG Cs 3 S0) md3 F3 f_check_curves s_check_curves (k_check_curves Cs 3 S0) (C := Cs 3) (m3 Cs S0 3 rfl)
  have md4 := md3.succ (G' := GG Cs 4 S0) rfl rfl rfl (fun _ _ => rfl) (by decide) (callOk_of F3 g3 b3 (Nat.le_refl _) ok3)
  have ok4 := fn_ok (G := GG Cs 4 S0) md4 F4 f_spread s_spread (k_spread Cs 4 S0) (C := Cs 4) (m4 Cs S0 4 rfl)
  have md5 := md4.succ (G' := GG Cs 5 S0) rfl rfl rfl (fun _ _ => rfl) (by decide) (callOk_of F4 g4 b4 (Nat.le_refl _) ok4)
  have ok5 := fn_ok (G := GG Cs 5 S0) md5 F5 f_bucket s_bucket (k_bucket Cs 5 S0) (C := Cs 5) (n5 Cs S0 5 rfl)
  have md6 := md5.succ (G' := GG Cs 6 S0) rfl rfl rfl (fun _ _ => rfl) (by decide) (callOk_of F5 g5 b5 (Nat.le_refl _) ok5)
  have ok6 := fn_ok (G := GG Cs 6 S0) md6 F6 f_served_at s_served_at (k_served_at Cs 6 S0) (C := Cs 6) (n6 Cs S0 6 rfl)
  have md7 := md6.succ (G' := GG Cs 7 S0) rfl rfl rfl (fun _ _ => rfl) (by decide) (callOk_of F6 g6 b6 (Nat.le_refl _) ok6)
  have ok7 := fn_ok (G := GG Cs 7 S0) md7 F7 f_is_bounded s_is_bounded (k_is_bounded Cs 7 S0) (C := Cs 7) (n7 Cs S0 7 rfl)
  have md8 := md7.succ (G' := GG Cs 8 S0) rfl rfl rfl (fun _ _ => rfl) (by decide) (callOk_of F7 g7 b7 (Nat.le_refl _) ok7)
  have ok8 := fn_ok (G := GG Cs 8 S0) md8 F8 f_least_bound s_least_bound (k_least_bound Cs 8 S0) (C := Cs 8) (n8 Cs S0 8 rfl)
  have md9 := md8.succ (G' := GG Cs 9 S0) rfl rfl rfl (fun _ _ => rfl) (by decide) (callOk_of F8 g8 b8 (Nat.le_refl _) ok8)
  have ok9 := fn_ok (G := GG Cs 9 S0) md9 F9 f_closed_curve s_closed_curve (k_closed_curve Cs 9 S0) (C := Cs 9) (n9 Cs S0 9 rfl rfl)
  have md10 := md9.succ (G' := GG Cs 10 S0) rfl rfl rfl (fun _ _ => rfl) (by decide) (callOk_of F9 g9 b9 (Nat.le_refl _) ok9)
  have ok10 := fn_ok (G := GG Cs 10 S0) md10 F10 f_shaped s_shaped (k_shaped Cs 10 S0) (C := Cs 10) (n10 Cs S0 10 rfl rfl rfl)
  have md11 := md10.succ (G' := GG Cs 11 S0) rfl rfl rfl (fun _ _ => rfl) (by decide) (callOk_of F10 g10 b10 (Nat.le_refl _) ok10)
  have ok11 := fn_ok (G := GG Cs 11 S0) md11 F11 f__law_hand s__law_hand (k__law_hand Cs 11 S0) (C := Cs 11) (m6 Cs S0 11 )
  have md12 := md11.succ (G' := GG Cs 12 S0) rfl rfl rfl (fun _ _ => rfl) (by decide) (callOk_of F11 g11 b11 (Nat.le_refl _) ok11)
  have ok12 := fn_draw (G := GP Cs 12 S0) (md12.to (m := 0) (by omega) rfl rfl rfl (fun _ _ => rfl) (by decide)) F12 f__law_draw s__law_draw (k__law_draw Cs 12 S0) rfl rfl (m7 Cs S0 12)
  have md13 := md12.succ (G' := GG Cs 13 S0) rfl rfl rfl (fun _ _ => rfl) (by decide) (callOk_of F12 g12 b12 (Nat.le_refl _) ok12)
  have ok13 := fn_ok (G := GG Cs 13 S0) md13 F13 f__law_any s__law_any (k__law_any Cs 13 S0) (C := Cs 13) (m8 Cs S0 13 rfl)
  have md14 := md13.succ (G' := GG Cs 14 S0) rfl rfl rfl (fun _ _ => rfl) (by decide) (callOk_of F13 g13 b13 (Nat.le_refl _) ok13)
  have mda0 := md14.succ (G' := GG (C9 noCon) 14 S0) rfl rfl rfl (fun f hf => if_neg (by omega)) (by decide) (callOk_of F14 g14 b14 (Nat.le_refl _) fn_no)
  have oka0 := fn_ok (G := GG (C9 noCon) 14 S0) mda0 F14 f__law_is s__law_is (k__law_is _ 14 S0) (C := cIs 0) (m90 _ S0 14)
  have mda1 := md14.succ (G' := GG (C9 (cIs 0)) 15 S0) rfl rfl rfl (fun f hf => if_neg (by omega)) (by decide) (callOk_of F14 g14 b14 (Nat.le_refl _) oka0)
  have ok14 := fn_ok (G := GG (C9 (cIs 0)) 15 S0) mda1 F14 f__law_is s__law_is (k__law_is _ 15 S0) (C := cIs 1) (m9 _ S0 15 0 rfl)
  have md15 := md14.succ (G' := GG Cs 16 S0) rfl rfl rfl (fun _ _ => rfl) (by decide) (callOk_of F14 g14 b14 (Nat.le_refl _) ok14)
  have ok15 := fn_ok (G := GG Cs 16 S0) md15 F15 f__law_curve s__law_curve (k__law_curve Cs 16 S0) (C := Cs 15) (n15 Cs S0 16 rfl rfl)
  have md16 := md15.succ (G' := GG Cs 17 S0) rfl rfl rfl (fun _ _ => rfl) (by decide) (callOk_of F15 g15 b15 (Nat.le_refl _) ok15)
  have ok16 := fn_ok (G := GG Cs 17 S0) md16 F16 f__law_spread s__law_spread (k__law_spread Cs 17 S0) (C := Cs 16) (m11 Cs S0 17 )
  have md17 := md16.succ (G' := GG Cs 18 S0) rfl rfl rfl (fun _ _ => rfl) (by decide) (callOk_of F16 g16 b16 (Nat.le_refl _) ok16)
  have ok17 := fn_ok (G := GG Cs 18 S0) md17 F17 f__law_is_no_more s__law_is_no_more (k__law_is_no_more Cs 18 S0) (C := Cs 17) (m12 Cs S0 18 )
  have md18 := md17.succ (G' := GG Cs 19 S0) rfl rfl rfl (fun _ _ => rfl) (by decide) (callOk_of F17 g17 b17 (Nat.le_refl _) ok17)
  have ok18 := fn_no (P := P) (w := w) (K := K) (mg := mg) (base := base) (f := He.fAd K d__law_said.at_) (fd := fd18) (ps := ["call"]) (j := 20) (m := 1)
  have md19 := md18.succ (G' := GG Cs 20 S0) rfl rfl rfl (fun _ _ => rfl) (by decide) (callOk_of F18 g18 b18 (Nat.le_refl _) ok18)
  have ok19 := fn_ok (G := GG Cs 20 S0) md19 F19 f__law_closed s__law_closed (k__law_closed Cs 20 S0) (C := Cs 19) (n19 Cs S0 20 )
  have md20 := md19.succ (G' := GG Cs 21 S0) rfl rfl rfl (fun _ _ => rfl) (by decide) (callOk_of F19 g19 b19 (Nat.le_refl _) ok19)
  have ok20 := fn_ok (G := GG Cs 21 S0) md20 F20 f__law_is_closed_right s__law_is_closed_right (k__law_is_closed_right Cs 21 S0) (C := Cs 20) (n20 Cs S0 21 rfl rfl rfl rfl rfl rfl rfl rfl)
  have md21 := md20.succ (G' := GG Cs 22 S0) rfl rfl rfl (fun _ _ => rfl) (by decide) (callOk_of F20 g20 b20 (Nat.le_refl _) ok20)
  have ok21 := fn_ok (G := GG Cs 22 S0) md21 F21 f__law_is_shaped_right s__law_is_shaped_right (k__law_is_shaped_right Cs 22 S0) (C := Cs 21) (n21 Cs S0 22 rfl rfl rfl rfl rfl rfl)
  have md22 := md21.succ (G' := GG Cs 23 S0) rfl rfl rfl (fun _ _ => rfl) (by decide) (callOk_of F21 g21 b21 (Nat.le_refl _) ok21)
  obtain ⟨tp22, htp22⟩ := c.some_ "_law_is_right" (by simp [lm])
  have mT22 := tabsK_mem (lm := lm) (x := "_law_is_right") (by simp [lm]) htp22
  obtain ⟨oc, od, dV, kV, doc, pm, an, ct, osl, hfd, hlk, hcd⟩ := code_of F22 htp22
  subst hfd
  have ok22 := fn_okL (G := GG Cs 23 S0) md22 hlk hcd f__law_is_right s__law_is_right (k__law_is_right Cs 23 S0) rfl (TB _ mT22) (tabT_mem (x := "_law_is_right") (by simp [lm]) htp22) (tabT_one (x := "_law_is_right") c.nd (by simp [lm]) htp22) (fun Y hK hM f hf => by
    have e0 : f = 0 := by
      have : f < 1 := hf
      omega
    subst e0
    exact said_all F18 g18 b18 gWorkError gNoCurve (He.free_ok X Gm (c.d.fact 10 (f := .free "isinstance") rfl)) (He.free_ok X Gm (c.d.fact 19 (f := .free "ValueError") rfl)) (exB_ok c.ex) Y hK hM) (C := Cs 22) (n22 Cs S0 23 rfl rfl rfl rfl rfl rfl rfl rfl rfl rfl rfl rfl)
  have md23 := md22.succ (G' := GG Cs 26 S0) rfl rfl rfl (fun _ _ => rfl) (by decide) (callOk_of F22 g22 b22 (Nat.le_refl _) ok22)
  have fin := fn_law (G := GG Cs 26 S0) (md23.to (G' := GG Cs 26 S0) (m := 23) (by omega) rfl rfl rfl (fun _ _ => rfl) (by decide)) F23 f_law (by decide) 11 s_rest (st := (defBody (top 32)).headD (.Pass ⟨0, 0, 0, 0⟩)) (rest := (defBody (top 32)).tail) rfl (by kernel_rfl) (by kernel_rfl) rfl (n23 Cs S0 26 rfl rfl rfl)
  exact fin
end T71
end sec_FIN71

section sec_HD71
set_option Elab.async false
set_option linter.all false
set_option maxRecDepth 100000
set_option maxHeartbeats 0
namespace T71
open PySem PySem.Spec PyProof.Rows L2 Wk
def loose : List PySem.Str := (["is_integer", "is_within", "WorkError", "NoNumber", "NoCurve", "MOST", "MOST_LONG", "is_curve", "check_curves", "spread", "bucket", "served_at", "is_bounded", "least_bound", "shaped", "closed_curve", "_law_hand", "_law_draw", "_law_any", "_law_is", "_law_curve", "_law_spread", "_law_is_no_more", "_law_said", "_law_closed", "_law_is_closed_right", "_law_is_shaped_right", "_law_is_right"] : List PySem.Str)
abbrev R : PySem.W.OpenRow := PySem.W.OpenLaw.row PySem.Challenge.rw_workhall_k71_whole_closed_and_shaped_cur
abbrev hk : PySem.W.Hook := hookT 4 fa fn lm exB
def ob (s : PySem.W.SharedT) : He.AlD := obsTG 4 fa fn lm exB (HandSHeadRun.getT s)
theorem ob_eq (s : PySem.W.SharedT) : ob s = hk.obs s.abs := obsTG_eq (HandSHeadRun.getT_eq s)
theorem run (w : World) : HandSHeadRun.RunEq R (PySem.W.view R.prog [32]) hk ob 6000 loose w := by
  intro os
  kernel_rfl
end T71
open PySem PySem.W PySem.Calls PyProof.Rows
theorem PySem.Challenge.cw_workhall_k71_whole_closed_and_shaped_cur_holds : PySem.Challenge.rw_workhall_k71_whole_closed_and_shaped_cur.Holds := by
  w_on; o_law
  refine HandSHeadRun.head_any (r := OpenLaw.row PySem.Challenge.rw_workhall_k71_whole_closed_and_shaped_cur) (q := view (OpenLaw.row PySem.Challenge.rw_workhall_k71_whole_closed_and_shaped_cur).prog [32]) (H := T71.hk) (ob := T71.ob) (M := 6000) (loose := T71.loose) (d := HandSHeadRun.topDef (OpenLaw.row PySem.Challenge.rw_workhall_k71_whole_closed_and_shaped_cur).prog 32) (kwd := []) T71.ob_eq
    (by kernel_rfl) (fun s => by kernel_rfl) T71.run (by kernel_rfl) (by kernel_rfl) (by kernel_rfl) (by rfl) (by first | assumption | decide +kernel) (by decide +kernel) ⟨rfl, rfl, rfl, rfl, rfl, by decide +kernel⟩ ?hw ?hc
  case hw => w_witness2
  case hc =>
    refine Wk.walk_ofX (l := PySem.Challenge.rw_workhall_k71_whole_closed_and_shaped_cur) (n := 63) (k := 27) (x := "script") (CX := fun w => L2.CX (PySem.Challenge.rw_workhall_k71_whole_closed_and_shaped_cur).prog w) rfl (by decide) (by kernel_rfl) ⟨rfl, by decide, by decide⟩ ?F (fun w H s e s' z => by
      obtain ⟨_, _, _, _, _, _, _, _, _, _, _, _, z⟩ := z
      exact z)
    intro w mg fa h Y G hmg0
    obtain ⟨K, KX, c⟩ := Y
    have hmg : mg ("law" : PySem.Str) = some (.ref fa) := by
      have e : (HandSHeadRun.topDef (OpenLaw.row PySem.Challenge.rw_workhall_k71_whole_closed_and_shaped_cur).prog 32).name = ("law" : PySem.Str) := by kernel_rfl
      rw [← e]
      exact hmg0
    obtain ⟨fd, hb, hF⟩ := T71.law_ok (P := (PySem.Challenge.rw_workhall_k71_whole_closed_and_shaped_cur).prog) (w := w) KX G hmg c
    exact ⟨K, KX, fd, Wk.tabsK K T71.lm, _, c.tab, c.no, c.hd KX, hb, fun H a ns hl _ hH hS => ⟨a, ns, rfl, hS, hl, Wk.tabs_tbl hH, fun _ => rfl⟩, hF⟩
end sec_HD71
