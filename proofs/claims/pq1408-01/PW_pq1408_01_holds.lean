import PyProof.Rows.All
import Wide.All
import OpenK.AllK
import Wide.FinOn
import PySem.Challenge.RW_pq1408_01
set_option Elab.async false
set_option compiler.extract_closed false
set_option maxRecDepth 100000
set_option maxHeartbeats 0
set_option linter.all false
namespace Mine
section
open PySem PySem.W PyProof.Rows
noncomputable def pr : Program := PySem.Challenge.pw_pq1408_01
noncomputable def st (i : Nat) : Stmt := (pr.main.body[i]?).getD (.Pass ⟨0, 0, 0, 0⟩)
noncomputable def clsBody : Stmt → List Stmt
  | .ClassDef _ _ _ b _ _ _ _ _ _ _ => b
  | _ => []
noncomputable def sc (i j : Nat) : Stmt := ((clsBody (st i))[j]?).getD (.Pass ⟨0, 0, 0, 0⟩)
noncomputable def fArgs : Stmt → Arguments
  | .FunctionDef _ a _ _ _ _ _ _ _ _ => a
  | _ => default
noncomputable def fBody : Stmt → List Stmt
  | .FunctionDef _ _ b _ _ _ _ _ _ _ => b
  | _ => []
noncomputable def fScope : Stmt → Scope
  | .FunctionDef _ _ _ _ _ _ s _ _ _ => s
  | _ => default
noncomputable def mkF (name qual : PySem.Str) (s : Stmt) (g : Addr) (dV kV doc pm code ct : Value) (bl : Addr) : FuncData :=
  { name := name, qualname := qual, params := fArgs s, body := .stmts (fBody s), scope := fScope s, globals := g, closure := [], defaults := dV, kwdefaults := kV, doc := doc, pyModule := pm, annotations := none, code := code, closureTuple := ct, builtins := bl }
noncomputable def mkC (name : PySem.Str) (bases mro : List Value) (ns : Addr) (q : PySem.Str) (hd : Bool) (sl : List PySem.Str) (sub : List Value) (ab : Bool) (col : Option Bool) (del : Bool) : ClassData :=
  { name := name, bases := bases, mro := mro, ns := ns, qualname := q, hasDict := hd, slotNames := sl, subclasses := sub, abstract := ab, collection := col, hasDel := del }
noncomputable def en (P : Params) (s : PySem.Str) (t : Nat) (v : Value) : DictEntry := ⟨PyData.keyHash P s, .str s t, v⟩
noncomputable def s0 : PySem.Str := ⟨#[95, 95, 110, 97, 109, 101, 95, 95]⟩
noncomputable def s1 : PySem.Str := ⟨#[98, 117, 105, 108, 116, 105, 110, 115]⟩
noncomputable def s2 : PySem.Str := ⟨#[95, 95, 100, 111, 99, 95, 95]⟩
noncomputable def s3 : PySem.Str := ⟨#[95, 95, 112, 97, 99, 107, 97, 103, 101, 95, 95]⟩
noncomputable def s4 : PySem.Str := ⟨#[95, 95, 108, 111, 97, 100, 101, 114, 95, 95]⟩
noncomputable def s5 : PySem.Str := ⟨#[95, 95, 115, 112, 101, 99, 95, 95]⟩
noncomputable def s160 : PySem.Str := ⟨#[95, 95, 109, 97, 105, 110, 95, 95]⟩
noncomputable def s163 : PySem.Str := ⟨#[108, 97, 119, 95, 112, 113, 49, 52, 48, 56, 95, 48, 49]⟩
noncomputable def s167 : PySem.Str := ⟨#[47, 99, 108, 97, 105, 109, 47, 99, 117, 116, 46, 112, 121]⟩
noncomputable def s169 : PySem.Str := ⟨#[95, 119, 97, 108, 108]⟩
noncomputable def s170 : PySem.Str := ⟨#[103, 101, 116, 95, 97, 116, 116, 114]⟩
noncomputable def s171 : PySem.Str := ⟨#[110, 97, 109, 101, 115, 95, 111, 102]⟩
noncomputable def s172 : PySem.Str := ⟨#[100, 105, 109, 95, 111, 102]⟩
noncomputable def s173 : PySem.Str := ⟨#[100, 105, 109, 110, 97, 109, 101, 115, 95, 111, 102]⟩
noncomputable def s174 : PySem.Str := ⟨#[67, 111, 118, 101, 69, 114, 114, 111, 114]⟩
noncomputable def s175 : PySem.Str := ⟨#[82, 101, 102, 117, 115, 97, 108]⟩
noncomputable def s181 : PySem.Str := ⟨#[103, 99, 100]⟩
noncomputable def s182 : PySem.Str := ⟨#[98, 111, 117, 110, 100, 101, 100]⟩
noncomputable def s183 : PySem.Str := ⟨#[109, 97, 107, 101]⟩
noncomputable def s184 : PySem.Str := ⟨#[102, 114, 111, 109, 95, 105, 110, 116]⟩
noncomputable def s185 : PySem.Str := ⟨#[105, 115, 95, 110, 97]⟩
noncomputable def s186 : PySem.Str := ⟨#[105, 115, 95, 102, 105, 110, 105, 116, 101]⟩
noncomputable def s187 : PySem.Str := ⟨#[110, 101, 103]⟩
noncomputable def s188 : PySem.Str := ⟨#[116, 111, 95, 119, 104, 111, 108, 101]⟩
noncomputable def s189 : PySem.Str := ⟨#[110, 101, 97, 114, 101, 115, 116, 95, 119, 104, 111, 108, 101]⟩
noncomputable def s190 : PySem.Str := ⟨#[101, 120, 112, 111, 110, 101, 110, 116]⟩
noncomputable def s193 : PySem.Str := ⟨#[119, 104, 111, 108, 101, 95, 116, 101, 120, 116]⟩
noncomputable def s194 : PySem.Str := ⟨#[115, 112, 101, 99, 105, 97, 108, 95, 116, 101, 120, 116]⟩
noncomputable def s195 : PySem.Str := ⟨#[115, 99, 97, 108, 101, 100]⟩
noncomputable def s196 : PySem.Str := ⟨#[115, 105, 103, 110, 105, 102, 105, 99, 97, 110, 116]⟩
noncomputable def s197 : PySem.Str := ⟨#[119, 105, 116, 104, 111, 117, 116, 95, 116, 97, 105, 108]⟩
noncomputable def s198 : PySem.Str := ⟨#[115, 99, 105, 101, 110, 116, 105, 102, 105, 99, 95, 116, 101, 120, 116]⟩
noncomputable def s199 : PySem.Str := ⟨#[102, 105, 120, 101, 100, 95, 116, 101, 120, 116]⟩
noncomputable def s200 : PySem.Str := ⟨#[109, 101, 97, 115, 117, 114, 101, 115]⟩
noncomputable def s201 : PySem.Str := ⟨#[99, 104, 111, 115, 101, 110, 95, 102, 111, 114, 109]⟩
noncomputable def s202 : PySem.Str := ⟨#[102, 111, 114, 109, 101, 100]⟩
noncomputable def s203 : PySem.Str := ⟨#[99, 111, 109, 109, 111, 110, 95, 116, 101, 120, 116, 115]⟩
noncomputable def s204 : PySem.Str := ⟨#[110, 117, 109, 98, 101, 114, 95, 116, 101, 120, 116]⟩
noncomputable def s205 : PySem.Str := ⟨#[100, 105, 103, 105, 116, 115, 95, 118, 97, 108, 117, 101]⟩
noncomputable def s206 : PySem.Str := ⟨#[100, 105, 103, 105, 116, 95, 114, 117, 110]⟩
noncomputable def s207 : PySem.Str := ⟨#[101, 120, 112, 111, 110, 101, 110, 116, 95, 118, 97, 108, 117, 101]⟩
noncomputable def s208 : PySem.Str := ⟨#[112, 111, 119, 101, 114, 101, 100]⟩
noncomputable def s209 : PySem.Str := ⟨#[117, 110, 115, 105, 103, 110, 101, 100, 95, 110, 117, 109, 98, 101, 114]⟩
noncomputable def s210 : PySem.Str := ⟨#[112, 97, 114, 115, 101, 95, 110, 117, 109, 98, 101, 114]⟩
noncomputable def s212 : PySem.Str := ⟨#[78, 117, 108, 108]⟩
noncomputable def s213 : PySem.Str := ⟨#[86, 101, 99, 116, 111, 114]⟩
noncomputable def s214 : PySem.Str := ⟨#[83, 121, 109, 98, 111, 108]⟩
noncomputable def s215 : PySem.Str := ⟨#[114, 111, 111, 109]⟩
noncomputable def s216 : PySem.Str := ⟨#[110, 117, 108, 108]⟩
noncomputable def s217 : PySem.Str := ⟨#[99, 104, 97, 114, 97, 99, 116, 101, 114]⟩
noncomputable def s218 : PySem.Str := ⟨#[110, 97, 109, 101, 100]⟩
noncomputable def s219 : PySem.Str := ⟨#[108, 101, 110, 103, 116, 104]⟩
noncomputable def s220 : PySem.Str := ⟨#[105, 115, 95, 118, 101, 99, 116, 111, 114]⟩
noncomputable def s221 : PySem.Str := ⟨#[105, 115, 95, 97, 116, 111, 109, 105, 99]⟩
noncomputable def s222 : PySem.Str := ⟨#[115, 104, 97, 114, 101]⟩
noncomputable def s224 : PySem.Str := ⟨#[107, 105, 110, 100, 95, 111, 114, 100, 101, 114]⟩
noncomputable def s225 : PySem.Str := ⟨#[99, 111, 109, 109, 111, 110, 95, 107, 105, 110, 100]⟩
noncomputable def s226 : PySem.Str := ⟨#[110, 111, 116, 101]⟩
noncomputable def s227 : PySem.Str := ⟨#[97, 115, 95, 108, 111, 103, 105, 99, 97, 108, 95, 116, 101, 120, 116]⟩
noncomputable def s228 : PySem.Str := ⟨#[100, 111, 117, 98, 108, 101, 95, 116, 111, 95, 105, 110, 116, 101, 103, 101, 114]⟩
noncomputable def s229 : PySem.Str := ⟨#[116, 101, 120, 116, 95, 116, 111, 95, 100, 111, 117, 98, 108, 101]⟩
noncomputable def s230 : PySem.Str := ⟨#[116, 111, 95, 108, 111, 103, 105, 99, 97, 108]⟩
noncomputable def s231 : PySem.Str := ⟨#[116, 111, 95, 105, 110, 116, 101, 103, 101, 114]⟩
noncomputable def s232 : PySem.Str := ⟨#[116, 111, 95, 100, 111, 117, 98, 108, 101]⟩
noncomputable def s233 : PySem.Str := ⟨#[116, 111, 95, 116, 101, 120, 116]⟩
noncomputable def s234 : PySem.Str := ⟨#[105, 116, 101, 109, 95, 97, 115]⟩
noncomputable def s235 : PySem.Str := ⟨#[105, 115, 95, 97, 116, 111, 109, 105, 99, 95, 107, 105, 110, 100]⟩
noncomputable def s236 : PySem.Str := ⟨#[108, 105, 115, 116, 95, 105, 116, 101, 109, 95, 97, 115]⟩
noncomputable def s237 : PySem.Str := ⟨#[114, 101, 102, 117, 115, 101, 95, 116, 121, 112, 101]⟩
noncomputable def s238 : PySem.Str := ⟨#[97, 115, 95, 118, 101, 99, 116, 111, 114, 95, 107, 105, 110, 100]⟩
noncomputable def s239 : PySem.Str := ⟨#[119, 105, 116, 104, 95, 110, 97, 109, 101, 115]⟩
noncomputable def s240 : PySem.Str := ⟨#[97, 115, 95, 107, 105, 110, 100]⟩
noncomputable def s242 : PySem.Str := ⟨#[78, 97, 109, 101, 82, 111, 119]⟩
noncomputable def s243 : PySem.Str := ⟨#[111, 112, 101, 110, 115]⟩
noncomputable def s244 : PySem.Str := ⟨#[99, 111, 117, 110, 116, 95, 108, 101, 97, 118, 101, 115]⟩
noncomputable def s245 : PySem.Str := ⟨#[105, 110, 110, 101, 114, 95, 116, 101, 120, 116]⟩
noncomputable def s246 : PySem.Str := ⟨#[106, 111, 105, 110, 101, 100, 95, 98, 97, 115, 101]⟩
noncomputable def s247 : PySem.Str := ⟨#[108, 101, 97, 102, 95, 110, 97, 109, 101]⟩
noncomputable def s248 : PySem.Str := ⟨#[112, 108, 97, 105, 110, 95, 110, 97, 109, 101, 115]⟩
noncomputable def s249 : PySem.Str := ⟨#[101, 120, 116, 114, 97, 99, 116, 95, 110, 97, 109, 101, 115]⟩
noncomputable def s250 : PySem.Str := ⟨#[104, 97, 115, 95, 110, 97, 109, 101, 115]⟩
noncomputable def s251 : PySem.Str := ⟨#[106, 111, 105, 110, 101, 100, 95, 110, 97, 109, 101, 115]⟩
noncomputable def s252 : PySem.Str := ⟨#[103, 97, 116, 104, 101, 114]⟩
noncomputable def s253 : PySem.Str := ⟨#[112, 97, 114, 116, 95, 105, 116, 101, 109, 115]⟩
noncomputable def s254 : PySem.Str := ⟨#[99, 111, 109, 98, 105, 110, 101, 100]⟩
noncomputable def s255 : PySem.Str := ⟨#[117, 110, 108, 105, 115, 116, 101, 100]⟩
noncomputable def s256 : PySem.Str := ⟨#[95, 108, 97, 119, 95, 103, 117, 108, 112]⟩
noncomputable def s257 : PySem.Str := ⟨#[95, 108, 97, 119, 95, 116, 97, 103]⟩
noncomputable def s258 : PySem.Str := ⟨#[95, 108, 97, 119, 95, 112, 108, 97, 110]⟩
noncomputable def s259 : PySem.Str := ⟨#[95, 108, 97, 119, 95, 118, 97, 108, 117, 101]⟩
noncomputable def s260 : PySem.Str := ⟨#[95, 108, 97, 119, 95, 98, 101, 104, 105, 110, 100]⟩
noncomputable def s261 : PySem.Str := ⟨#[95, 108, 97, 119, 95, 105, 115, 95, 111, 112, 101, 110]⟩
noncomputable def s262 : PySem.Str := ⟨#[95, 108, 97, 119, 95, 115, 112, 114, 101, 97, 100]⟩
noncomputable def s263 : PySem.Str := ⟨#[95, 108, 97, 119, 95, 107, 105, 110, 100, 115]⟩
noncomputable def s264 : PySem.Str := ⟨#[95, 108, 97, 119, 95, 105, 115, 95, 110, 97, 109, 101, 100]⟩
noncomputable def s265 : PySem.Str := ⟨#[95, 108, 97, 119, 95, 110, 97, 109, 101, 115]⟩
noncomputable def s266 : PySem.Str := ⟨#[95, 108, 97, 119, 95, 114, 97, 105, 115, 101, 100]⟩
noncomputable def s267 : PySem.Str := ⟨#[95, 108, 97, 119, 95, 105, 115, 95, 100, 117, 101]⟩
noncomputable def s268 : PySem.Str := ⟨#[108, 97, 119]⟩
noncomputable def s269 : PySem.Str := ⟨#[60, 109, 111, 100, 117, 108, 101, 62]⟩
noncomputable def s271 : PySem.Str := ⟨#[118]⟩
noncomputable def s272 : PySem.Str := ⟨#[110, 97, 109, 101]⟩
noncomputable def s273 : PySem.Str := ⟨#[118, 101, 99, 116, 111, 114, 99, 111, 118, 101, 46, 97, 116, 116, 114, 115]⟩
noncomputable def s275 : PySem.Str := ⟨#[95, 95, 109, 111, 100, 117, 108, 101, 95, 95]⟩
noncomputable def s276 : PySem.Str := ⟨#[118, 101, 99, 116, 111, 114, 99, 111, 118, 101, 46, 101, 114, 114, 111, 114, 115]⟩
noncomputable def s277 : PySem.Str := ⟨#[95, 95, 113, 117, 97, 108, 110, 97, 109, 101, 95, 95]⟩
noncomputable def s278 : PySem.Str := ⟨#[95, 95, 102, 105, 114, 115, 116, 108, 105, 110, 101, 110, 111, 95, 95]⟩
noncomputable def s279 : PySem.Str := ⟨#[95, 95, 115, 116, 97, 116, 105, 99, 95, 97, 116, 116, 114, 105, 98, 117, 116, 101, 115, 95, 95]⟩
noncomputable def s280 : PySem.Str := ⟨#[95, 95, 119, 101, 97, 107, 114, 101, 102, 95, 95]⟩
noncomputable def s281 : PySem.Str := ⟨#[95, 95, 105, 110, 105, 116, 95, 95]⟩
noncomputable def s282 : PySem.Str := ⟨#[115, 101, 108, 102]⟩
noncomputable def s283 : PySem.Str := ⟨#[109, 101, 115, 115, 97, 103, 101]⟩
noncomputable def s284 : PySem.Str := ⟨#[82, 101, 102, 117, 115, 97, 108, 46, 95, 95, 105, 110, 105, 116, 95, 95]⟩
noncomputable def s287 : PySem.Str := ⟨#[118, 101, 99, 116, 111, 114, 99, 111, 118, 101, 46, 114, 97, 116, 105, 111, 110, 97, 108]⟩
noncomputable def s288 : PySem.Str := ⟨#[110]⟩
noncomputable def s289 : PySem.Str := ⟨#[100]⟩
noncomputable def s291 : PySem.Str := ⟨#[120]⟩
noncomputable def s292 : PySem.Str := ⟨#[102, 111, 117, 110, 100]⟩
noncomputable def s294 : PySem.Str := ⟨#[114, 101, 115, 116]⟩
noncomputable def s295 : PySem.Str := ⟨#[101]⟩
noncomputable def s296 : PySem.Str := ⟨#[114, 111, 119]⟩
noncomputable def s297 : PySem.Str := ⟨#[112, 97, 114, 116]⟩
noncomputable def s298 : PySem.Str := ⟨#[118, 101, 99, 116, 111, 114, 99, 111, 118, 101, 46, 110, 117, 109, 116, 101, 120, 116]⟩
noncomputable def s299 : PySem.Str := ⟨#[100, 105, 103, 105, 116, 115]⟩
noncomputable def s301 : PySem.Str := ⟨#[116, 101, 120, 116]⟩
noncomputable def s302 : PySem.Str := ⟨#[101, 110, 100]⟩
noncomputable def s303 : PySem.Str := ⟨#[115, 105, 100, 101]⟩
noncomputable def s304 : PySem.Str := ⟨#[112, 108, 97, 99, 101, 115]⟩
noncomputable def s305 : PySem.Str := ⟨#[99, 111, 117, 110, 116]⟩
noncomputable def s306 : PySem.Str := ⟨#[108, 101, 102, 116]⟩
noncomputable def s313 : PySem.Str := ⟨#[98, 97, 115, 101]⟩
noncomputable def s314 : PySem.Str := ⟨#[118, 97, 108, 117, 101]⟩
noncomputable def s317 : PySem.Str := ⟨#[115, 116, 97, 114, 116]⟩
noncomputable def s320 : PySem.Str := ⟨#[98, 101, 102, 111, 114, 101]⟩
noncomputable def s322 : PySem.Str := ⟨#[111, 107]⟩
noncomputable def s326 : PySem.Str := ⟨#[118, 101, 99, 116, 111, 114, 99, 111, 118, 101, 46, 118, 97, 108, 117, 101, 115]⟩
noncomputable def s327 : PySem.Str := ⟨#[78, 117, 108, 108, 46, 95, 95, 105, 110, 105, 116, 95, 95]⟩
noncomputable def s328 : PySem.Str := ⟨#[97, 116, 116, 114, 115]⟩
noncomputable def s329 : PySem.Str := ⟨#[107, 105, 110, 100]⟩
noncomputable def s330 : PySem.Str := ⟨#[95, 95, 100, 105, 99, 116, 95, 95]⟩
noncomputable def s331 : PySem.Str := ⟨#[99, 111, 112, 121]⟩
noncomputable def s332 : PySem.Str := ⟨#[105, 116, 101, 109, 115]⟩
noncomputable def s333 : PySem.Str := ⟨#[86, 101, 99, 116, 111, 114, 46, 95, 95, 105, 110, 105, 116, 95, 95]⟩
noncomputable def s334 : PySem.Str := ⟨#[86, 101, 99, 116, 111, 114, 46, 99, 111, 112, 121]⟩
noncomputable def s337 : PySem.Str := ⟨#[83, 121, 109, 98, 111, 108, 46, 95, 95, 105, 110, 105, 116, 95, 95]⟩
noncomputable def s338 : PySem.Str := ⟨#[110, 97, 109, 101, 115]⟩
noncomputable def s339 : PySem.Str := ⟨#[107, 105, 110, 100, 115]⟩
noncomputable def s340 : PySem.Str := ⟨#[118, 101, 99, 116, 111, 114, 99, 111, 118, 101, 46, 99, 111, 101, 114, 99, 101]⟩
noncomputable def s342 : PySem.Str := ⟨#[110, 111, 116, 101, 115]⟩
noncomputable def s343 : PySem.Str := ⟨#[115]⟩
noncomputable def s344 : PySem.Str := ⟨#[105, 116, 101, 109]⟩
noncomputable def s345 : PySem.Str := ⟨#[116, 111]⟩
noncomputable def s346 : PySem.Str := ⟨#[118, 101, 99, 116, 111, 114, 99, 111, 118, 101, 46, 99, 111, 109, 98, 105, 110, 101]⟩
noncomputable def s347 : PySem.Str := ⟨#[78, 97, 109, 101, 82, 111, 119, 46, 95, 95, 105, 110, 105, 116, 95, 95]⟩
noncomputable def s349 : PySem.Str := ⟨#[114, 101, 99, 117, 114, 115, 101]⟩
noncomputable def s351 : PySem.Str := ⟨#[116, 97, 103]⟩
noncomputable def s358 : PySem.Str := ⟨#[109, 117, 103]⟩
noncomputable def s360 : PySem.Str := ⟨#[112, 108, 97, 110]⟩
noncomputable def s361 : PySem.Str := ⟨#[111, 112, 101, 110, 101, 100, 95, 115, 111]⟩
noncomputable def bg : Int := 100000000000000000000000000000000000000000000000000000000000000000000000000000000000000000000000000000000000000000000000000000000000000000000000000000000000000000000000000000000000000000000000000000000000000000000000000000000000000000000000000000000000000000000000000000000000000000000000000000000000000000000000000000000000000000000000000000000000000000000000000000000000000000000000000000000000000000000000000000000000000000000000000000000000000000000000000000000000000000000000000000000000000000000000000000000000000000000000000000000000000000000000000000000000000000000000000000000000000000000000000000000000000000000000000000000000000000000000000000000000000000000000000000000000000000000000000000000000000000000000000000000000000000000000000000000000000000000000000000000000000000000000000000000000000000000000000000000000000000000000000000000000000000000000000000000000000000000000000000000000000000000000000000000000000000000000000000000000000000000000000000000000000000000000000000000000000000000000000000000000000000000000000000000000000000000000000000000000000000000000000000000000000000000000000000000000000000000000000000000000000000000000000000000000000000000000000000000000000000000000000000000000000000000000000000000000000000000000000000000000000000000000000000000000000000000000000000000000000000000000000000000000000000000000000000000000000000000000000000000000000000000000000000000000000000000000000000000000000000000000000000000000000000000000000000000000000000000000000000000000000000000000000000000000000000000000000000000000000000000000000000000000000000000000000000000000000000000000000000000000000000000000000000000000000000000000000000000000000000000000000000000000000000000000000000000000000000000000000000000000000000000000000000000000000000000000000000000000000000000000000000000000000000000000000000000000000000000000000000000000000000000000000000000000000000000000000000000000000000000000000000000000000000000000000000000000000000000000000000000000000000000000000000000000000000000000000000000000000000000000000000000000000000000000000000000000000000000000000000000000000000000000000000000000000000000000000000000000000000000000000000000000000000000000000000000000000000000000000000000000000000000000000000000000000000000000000000000000000000000000000000000000000000000000000000000000000000000000000000000000000000000000000000000000000000000000000000000000000000000000000000000000000000000000000000000000000000000000000000000000000000000000000000000000000000000000000000000000000000000000000000000000000000000000000000000000000000000000000000000000000000000000000000000000000000000000000000000000000000000000000000000000000000000000000000000000000000000000000000000000000000000000000000000000000000000000000000000000000000000000000000000000000000000000000000000000000000000000000000000000000000000000000000000000000000000000000000000000000000000000000000000000000000000000000000000000000000000000000000000000000000000000000000000000000000000000000000000000000000000000000000000000000000000000000000000000000000000000000000000000000000000000000000000000000000000000000000000000000000000000000000000000000000000000000000000000000000000000000000000000000000000000000000000000000000000000000000000000000000000000000000000000000000000000000000000000000000000000000000000000000000000000000000000000000000000000000000000000000000000000000000000000000000000000000000000000000000000000000000000000000000000000000000000000000000000000000000000000000000000000000000000000000000000000000000000000000000000000000000000000000000000000000000000000000000000000000000000000000000000000000000000000000000000000000000000000000000000000000000000000000000000000000000000000000000000000000000000000000000000000000000000000000000000000000000000000000000000000000000000000000000000000000000000000000000000000000000000000000000000000000000000000000000000000000000000000000000000000000000000000000000000000000000000000000000000000000000000000000000000000000000000000000000000000000000000000000000000000000000000000000000000000000000000000000000000000000000000000000000000000000000000000000000000000000000000000000000000000000000000000000000000000000000000000000000000000000000000000000000000000000000000000000000000000000000000000000000000000000000000000000000000000000000000000000000000000000000000000000000000000000000000000000000000000000000000000000000000000000000000000000000000000000000000000000000000000000000000000000000000000000000000000000000000000000000000000000000000000000000000000000000000000000000000000000000000000000000000000000000000000000000000000000000000000000000000000000000000000000000000000000000000000000000000000000000000000000000000000000000000000000000000000000000000000000000000000000000000000000000000000000000000000000000000000000000000000000000000000000000000000000000000000000000000000000000000000000000000000000000000000000000000000000000000000000000000000000000000000000000000000000000000000000000000000000000000000000000000000000000000000000000000000000000000
noncomputable def q_0 (P : Params) : DictEntry := en P s2 166 .none
noncomputable def q_1 (P : Params) : DictEntry := en P s3 167 .none
noncomputable def q_2 (P : Params) : DictEntry := en P s4 168 (.builtin "__main__.__loader__#opaque")
noncomputable def q_3 (P : Params) : DictEntry := en P s5 169 .none
noncomputable def q_4 (P : Params) : DictEntry := en P ⟨#[95, 95, 97, 110, 110, 111, 116, 97, 116, 105, 111, 110, 115, 95, 95]⟩ 170 (.ref 6)
noncomputable def q_5 (P : Params) : DictEntry := en P ⟨#[95, 95, 98, 117, 105, 108, 116, 105, 110, 115, 95, 95]⟩ 171 (.ref 4)
noncomputable def q_6 (P : Params) : DictEntry := en P ⟨#[95, 95, 102, 105, 108, 101, 95, 95]⟩ 173 (.str s167 172)
noncomputable def q_7 (P : Params) : DictEntry := en P ⟨#[95, 95, 99, 97, 99, 104, 101, 100, 95, 95]⟩ 174 .none
noncomputable def q_8 (P : Params) : DictEntry := en P s169 193 (.ref 21)
noncomputable def q_9 (P : Params) : DictEntry := en P s170 203 (.ref 28)
noncomputable def q_10 (P : Params) : DictEntry := en P s171 209 (.ref 33)
noncomputable def q_11 (P : Params) : DictEntry := en P s172 217 (.ref 40)
noncomputable def q_12 (P : Params) : DictEntry := en P s173 223 (.ref 45)
noncomputable def q_13 (P : Params) : DictEntry := en P s174 245 (.ref 55)
noncomputable def q_14 (P : Params) : DictEntry := en P s175 270 (.ref 75)
noncomputable def q_15 (P : Params) : DictEntry := en P ⟨#[78, 65, 78]⟩ 275 (.ref 78)
noncomputable def q_16 (P : Params) : DictEntry := en P ⟨#[73, 78, 70]⟩ 278 (.ref 79)
noncomputable def q_17 (P : Params) : DictEntry := en P ⟨#[90, 69, 82, 79]⟩ 281 (.ref 80)
noncomputable def q_18 (P : Params) : DictEntry := en P ⟨#[77, 79, 83, 84, 95, 70, 73, 71, 85, 82, 69, 83]⟩ 283 (.int 5000 282)
noncomputable def q_19 (P : Params) : DictEntry := en P ⟨#[77, 79, 83, 84, 95, 80, 65, 82, 84]⟩ 286 (.int bg 285)
noncomputable def q_20 (P : Params) : DictEntry := en P s181 294 (.ref 87)
noncomputable def q_21 (P : Params) : DictEntry := en P s182 302 (.ref 94)
noncomputable def q_22 (P : Params) : DictEntry := en P s183 311 (.ref 101)
noncomputable def q_23 (P : Params) : DictEntry := en P s184 318 (.ref 108)
noncomputable def q_24 (P : Params) : DictEntry := en P s185 325 (.ref 115)
noncomputable def q_25 (P : Params) : DictEntry := en P s186 332 (.ref 122)
noncomputable def q_26 (P : Params) : DictEntry := en P s187 339 (.ref 129)
noncomputable def q_27 (P : Params) : DictEntry := en P s188 347 (.ref 136)
noncomputable def q_28 (P : Params) : DictEntry := en P s189 357 (.ref 143)
noncomputable def q_29 (P : Params) : DictEntry := en P s190 367 (.ref 150)
noncomputable def q_30 (P : Params) : DictEntry := en P ⟨#[77, 79, 83, 84, 95, 69, 88, 80, 79, 78, 69, 78, 84]⟩ 371 (.int 4096 370)
noncomputable def q_31 (P : Params) : DictEntry := en P ⟨#[77, 79, 83, 84, 95, 83, 73, 71, 78, 83]⟩ 373 (.int 5000 372)
noncomputable def q_32 (P : Params) : DictEntry := en P s193 383 (.ref 157)
noncomputable def q_33 (P : Params) : DictEntry := en P s194 390 (.ref 164)
noncomputable def q_34 (P : Params) : DictEntry := en P s195 400 (.ref 171)
noncomputable def q_35 (P : Params) : DictEntry := en P s196 410 (.ref 178)
noncomputable def q_36 (P : Params) : DictEntry := en P s197 418 (.ref 185)
noncomputable def q_37 (P : Params) : DictEntry := en P s198 430 (.ref 192)
noncomputable def q_38 (P : Params) : DictEntry := en P s199 440 (.ref 199)
noncomputable def q_39 (P : Params) : DictEntry := en P s200 453 (.ref 206)
noncomputable def q_40 (P : Params) : DictEntry := en P s201 470 (.ref 213)
noncomputable def q_41 (P : Params) : DictEntry := en P s202 479 (.ref 220)
noncomputable def q_42 (P : Params) : DictEntry := en P s203 485 (.ref 225)
noncomputable def q_43 (P : Params) : DictEntry := en P s204 494 (.ref 233)
noncomputable def q_44 (P : Params) : DictEntry := en P s205 504 (.ref 240)
noncomputable def q_45 (P : Params) : DictEntry := en P s206 513 (.ref 247)
noncomputable def q_46 (P : Params) : DictEntry := en P s207 522 (.ref 254)
noncomputable def q_47 (P : Params) : DictEntry := en P s208 531 (.ref 261)
noncomputable def q_48 (P : Params) : DictEntry := en P s209 550 (.ref 268)
noncomputable def q_49 (P : Params) : DictEntry := en P s210 562 (.ref 275)
noncomputable def q_50 (P : Params) : DictEntry := en P ⟨#[77, 79, 83, 84, 95, 76, 69, 78, 71, 84, 72]⟩ 566 (.int 1000000 565)
noncomputable def q_51 (P : Params) : DictEntry := en P s212 595 (.ref 292)
noncomputable def q_52 (P : Params) : DictEntry := en P s213 637 (.ref 321)
noncomputable def q_53 (P : Params) : DictEntry := en P s214 668 (.ref 342)
noncomputable def q_54 (P : Params) : DictEntry := en P s215 675 (.ref 353)
noncomputable def q_55 (P : Params) : DictEntry := en P s216 681 (.ref 360)
noncomputable def q_56 (P : Params) : DictEntry := en P s217 688 (.ref 367)
noncomputable def q_57 (P : Params) : DictEntry := en P s218 696 (.ref 374)
noncomputable def q_58 (P : Params) : DictEntry := en P s219 704 (.ref 381)
noncomputable def q_59 (P : Params) : DictEntry := en P s220 711 (.ref 388)
noncomputable def q_60 (P : Params) : DictEntry := en P s221 718 (.ref 395)
noncomputable def q_61 (P : Params) : DictEntry := en P s222 725 (.ref 402)
noncomputable def q_62 (P : Params) : DictEntry := en P ⟨#[77, 79, 83, 84, 95, 73, 78, 84, 69, 71, 69, 82]⟩ 729 (.int 2147483647 728)
noncomputable def q_63 (P : Params) : DictEntry := en P s224 737 (.ref 409)
noncomputable def q_64 (P : Params) : DictEntry := en P s225 747 (.ref 416)
noncomputable def q_65 (P : Params) : DictEntry := en P s226 755 (.ref 423)
noncomputable def q_66 (P : Params) : DictEntry := en P s227 762 (.ref 430)
noncomputable def q_67 (P : Params) : DictEntry := en P s228 771 (.ref 437)
noncomputable def q_68 (P : Params) : DictEntry := en P s229 781 (.ref 444)
noncomputable def q_69 (P : Params) : DictEntry := en P s230 789 (.ref 451)
noncomputable def q_70 (P : Params) : DictEntry := en P s231 798 (.ref 458)
noncomputable def q_71 (P : Params) : DictEntry := en P s232 807 (.ref 465)
noncomputable def q_72 (P : Params) : DictEntry := en P s233 815 (.ref 472)
noncomputable def q_73 (P : Params) : DictEntry := en P s234 825 (.ref 479)
noncomputable def q_74 (P : Params) : DictEntry := en P s235 832 (.ref 486)
noncomputable def q_75 (P : Params) : DictEntry := en P s236 842 (.ref 493)
noncomputable def q_76 (P : Params) : DictEntry := en P s237 850 (.ref 500)
noncomputable def q_77 (P : Params) : DictEntry := en P s238 856 (.ref 505)
noncomputable def q_78 (P : Params) : DictEntry := en P s239 864 (.ref 512)
noncomputable def q_79 (P : Params) : DictEntry := en P s240 870 (.ref 517)
noncomputable def q_80 (P : Params) : DictEntry := en P ⟨#[77, 79, 83, 84, 95, 68, 69, 80, 84, 72]⟩ 874 (.int 200 873)
noncomputable def q_81 (P : Params) : DictEntry := en P s242 904 (.ref 534)
noncomputable def q_82 (P : Params) : DictEntry := en P s243 912 (.ref 545)
noncomputable def q_83 (P : Params) : DictEntry := en P s244 922 (.ref 552)
noncomputable def q_84 (P : Params) : DictEntry := en P s245 929 (.ref 559)
noncomputable def q_85 (P : Params) : DictEntry := en P s246 937 (.ref 566)
noncomputable def q_86 (P : Params) : DictEntry := en P s247 946 (.ref 573)
noncomputable def q_87 (P : Params) : DictEntry := en P s0 165 (.str s326 563)
noncomputable def o0 (P : Params) : Obj := ⟨(.type "dict"), none, (.dict #[en P s0 1 (.str s1 160), en P s2 2 (.builtin "builtins.__doc__:str#opaque"), en P s3 3 (.builtin "builtins.__package__:str#opaque"), en P s4 4 (.builtin "builtins.__loader__:shared#opaque"), en P s5 5 (.builtin "builtins.__spec__#opaque"), en P ⟨#[95, 95, 98, 117, 105, 108, 100, 95, 99, 108, 97, 115, 115, 95, 95]⟩ 6 (.builtin "__build_class__"), en P ⟨#[95, 95, 105, 109, 112, 111, 114, 116, 95, 95]⟩ 7 (.builtin "__import__"), en P ⟨#[97, 98, 115]⟩ 8 (.builtin "abs"), en P ⟨#[97, 108, 108]⟩ 9 (.builtin "all"), en P ⟨#[97, 110, 121]⟩ 10 (.builtin "any"), en P ⟨#[97, 115, 99, 105, 105]⟩ 11 (.builtin "ascii"), en P ⟨#[98, 105, 110]⟩ 12 (.builtin "bin"), en P ⟨#[98, 114, 101, 97, 107, 112, 111, 105, 110, 116]⟩ 13 (.builtin "breakpoint"), en P ⟨#[99, 97, 108, 108, 97, 98, 108, 101]⟩ 14 (.builtin "callable"), en P ⟨#[99, 104, 114]⟩ 15 (.builtin "chr"), en P ⟨#[99, 111, 109, 112, 105, 108, 101]⟩ 16 (.builtin "compile"), en P ⟨#[100, 101, 108, 97, 116, 116, 114]⟩ 17 (.builtin "delattr"), en P ⟨#[100, 105, 114]⟩ 18 (.builtin "dir"), en P ⟨#[100, 105, 118, 109, 111, 100]⟩ 19 (.builtin "divmod"), en P ⟨#[101, 118, 97, 108]⟩ 20 (.builtin "eval"), en P ⟨#[101, 120, 101, 99]⟩ 21 (.builtin "exec"), en P ⟨#[102, 111, 114, 109, 97, 116]⟩ 22 (.builtin "format"), en P ⟨#[103, 101, 116, 97, 116, 116, 114]⟩ 23 (.builtin "getattr"), en P ⟨#[103, 108, 111, 98, 97, 108, 115]⟩ 24 (.builtin "globals"), en P ⟨#[104, 97, 115, 97, 116, 116, 114]⟩ 25 (.builtin "hasattr"), en P ⟨#[104, 97, 115, 104]⟩ 26 (.builtin "hash"), en P ⟨#[104, 101, 120]⟩ 27 (.builtin "hex"), en P ⟨#[105, 100]⟩ 28 (.builtin "id"), en P ⟨#[105, 110, 112, 117, 116]⟩ 29 (.builtin "input"), en P ⟨#[105, 115, 105, 110, 115, 116, 97, 110, 99, 101]⟩ 30 (.builtin "isinstance"), en P ⟨#[105, 115, 115, 117, 98, 99, 108, 97, 115, 115]⟩ 31 (.builtin "issubclass"), en P ⟨#[105, 116, 101, 114]⟩ 32 (.builtin "iter"), en P ⟨#[97, 105, 116, 101, 114]⟩ 33 (.builtin "aiter"), en P ⟨#[108, 101, 110]⟩ 34 (.builtin "len"), en P ⟨#[108, 111, 99, 97, 108, 115]⟩ 35 (.builtin "locals"), en P ⟨#[109, 97, 120]⟩ 36 (.builtin "max"), en P ⟨#[109, 105, 110]⟩ 37 (.builtin "min"), en P ⟨#[110, 101, 120, 116]⟩ 38 (.builtin "next"), en P ⟨#[97, 110, 101, 120, 116]⟩ 39 (.builtin "anext"), en P ⟨#[111, 99, 116]⟩ 40 (.builtin "oct"), en P ⟨#[111, 114, 100]⟩ 41 (.builtin "ord"), en P ⟨#[112, 111, 119]⟩ 42 (.builtin "pow"), en P ⟨#[112, 114, 105, 110, 116]⟩ 43 (.builtin "print"), en P ⟨#[114, 101, 112, 114]⟩ 44 (.builtin "repr"), en P ⟨#[114, 111, 117, 110, 100]⟩ 45 (.builtin "round"), en P ⟨#[115, 101, 116, 97, 116, 116, 114]⟩ 46 (.builtin "setattr"), en P ⟨#[115, 111, 114, 116, 101, 100]⟩ 47 (.builtin "sorted"), en P ⟨#[115, 117, 109]⟩ 48 (.builtin "sum"), en P ⟨#[118, 97, 114, 115]⟩ 49 (.builtin "vars"), en P ⟨#[78, 111, 110, 101]⟩ 50 .none, en P ⟨#[69, 108, 108, 105, 112, 115, 105, 115]⟩ 51 .ellipsis, en P ⟨#[78, 111, 116, 73, 109, 112, 108, 101, 109, 101, 110, 116, 101, 100]⟩ 52 .notImplemented, en P ⟨#[70, 97, 108, 115, 101]⟩ 53 (.bool false), en P ⟨#[84, 114, 117, 101]⟩ 54 (.bool true), en P ⟨#[98, 111, 111, 108]⟩ 55 (.type "bool"), en P ⟨#[109, 101, 109, 111, 114, 121, 118, 105, 101, 119]⟩ 56 (.type "memoryview"), en P ⟨#[98, 121, 116, 101, 97, 114, 114, 97, 121]⟩ 57 (.type "bytearray"), en P ⟨#[98, 121, 116, 101, 115]⟩ 58 (.type "bytes"), en P ⟨#[99, 108, 97, 115, 115, 109, 101, 116, 104, 111, 100]⟩ 59 (.type "classmethod"), en P ⟨#[99, 111, 109, 112, 108, 101, 120]⟩ 60 (.type "complex"), en P ⟨#[100, 105, 99, 116]⟩ 61 (.type "dict"), en P ⟨#[101, 110, 117, 109, 101, 114, 97, 116, 101]⟩ 62 (.type "enumerate"), en P ⟨#[102, 105, 108, 116, 101, 114]⟩ 63 (.type "filter"), en P ⟨#[102, 108, 111, 97, 116]⟩ 64 (.type "float"), en P ⟨#[102, 114, 111, 122, 101, 110, 115, 101, 116]⟩ 65 (.type "frozenset"), en P ⟨#[112, 114, 111, 112, 101, 114, 116, 121]⟩ 66 (.type "property"), en P ⟨#[105, 110, 116]⟩ 67 (.type "int"), en P ⟨#[108, 105, 115, 116]⟩ 68 (.type "list"), en P ⟨#[109, 97, 112]⟩ 69 (.type "map"), en P ⟨#[111, 98, 106, 101, 99, 116]⟩ 70 (.type "object"), en P ⟨#[114, 97, 110, 103, 101]⟩ 71 (.type "range"), en P ⟨#[114, 101, 118, 101, 114, 115, 101, 100]⟩ 72 (.type "reversed"), en P ⟨#[115, 101, 116]⟩ 73 (.type "set"), en P ⟨#[115, 108, 105, 99, 101]⟩ 74 (.type "slice"), en P ⟨#[115, 116, 97, 116, 105, 99, 109, 101, 116, 104, 111, 100]⟩ 75 (.type "staticmethod"), en P ⟨#[115, 116, 114]⟩ 76 (.type "str"), en P ⟨#[115, 117, 112, 101, 114]⟩ 77 (.type "super"), en P ⟨#[116, 117, 112, 108, 101]⟩ 78 (.type "tuple"), en P ⟨#[116, 121, 112, 101]⟩ 79 (.type "type"), en P ⟨#[122, 105, 112]⟩ 80 (.type "zip"), en P ⟨#[95, 95, 100, 101, 98, 117, 103, 95, 95]⟩ 81 (.bool true), en P ⟨#[66, 97, 115, 101, 69, 120, 99, 101, 112, 116, 105, 111, 110]⟩ 82 (.type "BaseException"), en P ⟨#[66, 97, 115, 101, 69, 120, 99, 101, 112, 116, 105, 111, 110, 71, 114, 111, 117, 112]⟩ 83 (.type "BaseExceptionGroup"), en P ⟨#[69, 120, 99, 101, 112, 116, 105, 111, 110]⟩ 84 (.type "Exception"), en P ⟨#[71, 101, 110, 101, 114, 97, 116, 111, 114, 69, 120, 105, 116]⟩ 85 (.type "GeneratorExit"), en P ⟨#[75, 101, 121, 98, 111, 97, 114, 100, 73, 110, 116, 101, 114, 114, 117, 112, 116]⟩ 86 (.type "KeyboardInterrupt"), en P ⟨#[83, 121, 115, 116, 101, 109, 69, 120, 105, 116]⟩ 87 (.type "SystemExit"), en P ⟨#[65, 114, 105, 116, 104, 109, 101, 116, 105, 99, 69, 114, 114, 111, 114]⟩ 88 (.type "ArithmeticError"), en P ⟨#[65, 115, 115, 101, 114, 116, 105, 111, 110, 69, 114, 114, 111, 114]⟩ 89 (.type "AssertionError"), en P ⟨#[65, 116, 116, 114, 105, 98, 117, 116, 101, 69, 114, 114, 111, 114]⟩ 90 (.type "AttributeError"), en P ⟨#[66, 117, 102, 102, 101, 114, 69, 114, 114, 111, 114]⟩ 91 (.type "BufferError"), en P ⟨#[69, 79, 70, 69, 114, 114, 111, 114]⟩ 92 (.type "EOFError"), en P ⟨#[73, 109, 112, 111, 114, 116, 69, 114, 114, 111, 114]⟩ 93 (.type "ImportError"), en P ⟨#[76, 111, 111, 107, 117, 112, 69, 114, 114, 111, 114]⟩ 94 (.type "LookupError"), en P ⟨#[77, 101, 109, 111, 114, 121, 69, 114, 114, 111, 114]⟩ 95 (.type "MemoryError"), en P ⟨#[78, 97, 109, 101, 69, 114, 114, 111, 114]⟩ 96 (.type "NameError"), en P ⟨#[79, 83, 69, 114, 114, 111, 114]⟩ 97 (.type "OSError"), en P ⟨#[82, 101, 102, 101, 114, 101, 110, 99, 101, 69, 114, 114, 111, 114]⟩ 98 (.type "ReferenceError"), en P ⟨#[82, 117, 110, 116, 105, 109, 101, 69, 114, 114, 111, 114]⟩ 99 (.type "RuntimeError"), en P ⟨#[83, 116, 111, 112, 65, 115, 121, 110, 99, 73, 116, 101, 114, 97, 116, 105, 111, 110]⟩ 100 (.type "StopAsyncIteration"), en P ⟨#[83, 116, 111, 112, 73, 116, 101, 114, 97, 116, 105, 111, 110]⟩ 101 (.type "StopIteration"), en P ⟨#[83, 121, 110, 116, 97, 120, 69, 114, 114, 111, 114]⟩ 102 (.type "SyntaxError"), en P ⟨#[83, 121, 115, 116, 101, 109, 69, 114, 114, 111, 114]⟩ 103 (.type "SystemError"), en P ⟨#[84, 121, 112, 101, 69, 114, 114, 111, 114]⟩ 104 (.type "TypeError"), en P ⟨#[86, 97, 108, 117, 101, 69, 114, 114, 111, 114]⟩ 105 (.type "ValueError"), en P ⟨#[87, 97, 114, 110, 105, 110, 103]⟩ 106 (.type "Warning"), en P ⟨#[70, 108, 111, 97, 116, 105, 110, 103, 80, 111, 105, 110, 116, 69, 114, 114, 111, 114]⟩ 107 (.type "FloatingPointError"), en P ⟨#[79, 118, 101, 114, 102, 108, 111, 119, 69, 114, 114, 111, 114]⟩ 108 (.type "OverflowError"), en P ⟨#[90, 101, 114, 111, 68, 105, 118, 105, 115, 105, 111, 110, 69, 114, 114, 111, 114]⟩ 109 (.type "ZeroDivisionError"), en P ⟨#[66, 121, 116, 101, 115, 87, 97, 114, 110, 105, 110, 103]⟩ 110 (.type "BytesWarning"), en P ⟨#[68, 101, 112, 114, 101, 99, 97, 116, 105, 111, 110, 87, 97, 114, 110, 105, 110, 103]⟩ 111 (.type "DeprecationWarning"), en P ⟨#[69, 110, 99, 111, 100, 105, 110, 103, 87, 97, 114, 110, 105, 110, 103]⟩ 112 (.type "EncodingWarning"), en P ⟨#[70, 117, 116, 117, 114, 101, 87, 97, 114, 110, 105, 110, 103]⟩ 113 (.type "FutureWarning"), en P ⟨#[73, 109, 112, 111, 114, 116, 87, 97, 114, 110, 105, 110, 103]⟩ 114 (.type "ImportWarning"), en P ⟨#[80, 101, 110, 100, 105, 110, 103, 68, 101, 112, 114, 101, 99, 97, 116, 105, 111, 110, 87, 97, 114, 110, 105, 110, 103]⟩ 115 (.type "PendingDeprecationWarning"), en P ⟨#[82, 101, 115, 111, 117, 114, 99, 101, 87, 97, 114, 110, 105, 110, 103]⟩ 116 (.type "ResourceWarning"), en P ⟨#[82, 117, 110, 116, 105, 109, 101, 87, 97, 114, 110, 105, 110, 103]⟩ 117 (.type "RuntimeWarning"), en P ⟨#[83, 121, 110, 116, 97, 120, 87, 97, 114, 110, 105, 110, 103]⟩ 118 (.type "SyntaxWarning"), en P ⟨#[85, 110, 105, 99, 111, 100, 101, 87, 97, 114, 110, 105, 110, 103]⟩ 119 (.type "UnicodeWarning"), en P ⟨#[85, 115, 101, 114, 87, 97, 114, 110, 105, 110, 103]⟩ 120 (.type "UserWarning"), en P ⟨#[66, 108, 111, 99, 107, 105, 110, 103, 73, 79, 69, 114, 114, 111, 114]⟩ 121 (.type "BlockingIOError"), en P ⟨#[67, 104, 105, 108, 100, 80, 114, 111, 99, 101, 115, 115, 69, 114, 114, 111, 114]⟩ 122 (.type "ChildProcessError"), en P ⟨#[67, 111, 110, 110, 101, 99, 116, 105, 111, 110, 69, 114, 114, 111, 114]⟩ 123 (.type "ConnectionError"), en P ⟨#[70, 105, 108, 101, 69, 120, 105, 115, 116, 115, 69, 114, 114, 111, 114]⟩ 124 (.type "FileExistsError"), en P ⟨#[70, 105, 108, 101, 78, 111, 116, 70, 111, 117, 110, 100, 69, 114, 114, 111, 114]⟩ 125 (.type "FileNotFoundError"), en P ⟨#[73, 110, 116, 101, 114, 114, 117, 112, 116, 101, 100, 69, 114, 114, 111, 114]⟩ 126 (.type "InterruptedError"), en P ⟨#[73, 115, 65, 68, 105, 114, 101, 99, 116, 111, 114, 121, 69, 114, 114, 111, 114]⟩ 127 (.type "IsADirectoryError"), en P ⟨#[78, 111, 116, 65, 68, 105, 114, 101, 99, 116, 111, 114, 121, 69, 114, 114, 111, 114]⟩ 128 (.type "NotADirectoryError"), en P ⟨#[80, 101, 114, 109, 105, 115, 115, 105, 111, 110, 69, 114, 114, 111, 114]⟩ 129 (.type "PermissionError"), en P ⟨#[80, 114, 111, 99, 101, 115, 115, 76, 111, 111, 107, 117, 112, 69, 114, 114, 111, 114]⟩ 130 (.type "ProcessLookupError"), en P ⟨#[84, 105, 109, 101, 111, 117, 116, 69, 114, 114, 111, 114]⟩ 131 (.type "TimeoutError"), en P ⟨#[73, 110, 100, 101, 110, 116, 97, 116, 105, 111, 110, 69, 114, 114, 111, 114]⟩ 132 (.type "IndentationError"), en P ⟨#[95, 73, 110, 99, 111, 109, 112, 108, 101, 116, 101, 73, 110, 112, 117, 116, 69, 114, 114, 111, 114]⟩ 133 (.type "_IncompleteInputError"), en P ⟨#[73, 110, 100, 101, 120, 69, 114, 114, 111, 114]⟩ 134 (.type "IndexError"), en P ⟨#[75, 101, 121, 69, 114, 114, 111, 114]⟩ 135 (.type "KeyError"), en P ⟨#[77, 111, 100, 117, 108, 101, 78, 111, 116, 70, 111, 117, 110, 100, 69, 114, 114, 111, 114]⟩ 136 (.type "ModuleNotFoundError"), en P ⟨#[78, 111, 116, 73, 109, 112, 108, 101, 109, 101, 110, 116, 101, 100, 69, 114, 114, 111, 114]⟩ 137 (.type "NotImplementedError"), en P ⟨#[80, 121, 116, 104, 111, 110, 70, 105, 110, 97, 108, 105, 122, 97, 116, 105, 111, 110, 69, 114, 114, 111, 114]⟩ 138 (.type "PythonFinalizationError"), en P ⟨#[82, 101, 99, 117, 114, 115, 105, 111, 110, 69, 114, 114, 111, 114]⟩ 139 (.type "RecursionError"), en P ⟨#[85, 110, 98, 111, 117, 110, 100, 76, 111, 99, 97, 108, 69, 114, 114, 111, 114]⟩ 140 (.type "UnboundLocalError"), en P ⟨#[85, 110, 105, 99, 111, 100, 101, 69, 114, 114, 111, 114]⟩ 141 (.type "UnicodeError"), en P ⟨#[66, 114, 111, 107, 101, 110, 80, 105, 112, 101, 69, 114, 114, 111, 114]⟩ 142 (.type "BrokenPipeError"), en P ⟨#[67, 111, 110, 110, 101, 99, 116, 105, 111, 110, 65, 98, 111, 114, 116, 101, 100, 69, 114, 114, 111, 114]⟩ 143 (.type "ConnectionAbortedError"), en P ⟨#[67, 111, 110, 110, 101, 99, 116, 105, 111, 110, 82, 101, 102, 117, 115, 101, 100, 69, 114, 114, 111, 114]⟩ 144 (.type "ConnectionRefusedError"), en P ⟨#[67, 111, 110, 110, 101, 99, 116, 105, 111, 110, 82, 101, 115, 101, 116, 69, 114, 114, 111, 114]⟩ 145 (.type "ConnectionResetError"), en P ⟨#[84, 97, 98, 69, 114, 114, 111, 114]⟩ 146 (.type "TabError"), en P ⟨#[85, 110, 105, 99, 111, 100, 101, 68, 101, 99, 111, 100, 101, 69, 114, 114, 111, 114]⟩ 147 (.type "UnicodeDecodeError"), en P ⟨#[85, 110, 105, 99, 111, 100, 101, 69, 110, 99, 111, 100, 101, 69, 114, 114, 111, 114]⟩ 148 (.type "UnicodeEncodeError"), en P ⟨#[85, 110, 105, 99, 111, 100, 101, 84, 114, 97, 110, 115, 108, 97, 116, 101, 69, 114, 114, 111, 114]⟩ 149 (.type "UnicodeTranslateError"), en P ⟨#[69, 120, 99, 101, 112, 116, 105, 111, 110, 71, 114, 111, 117, 112]⟩ 150 (.type "ExceptionGroup"), en P ⟨#[69, 110, 118, 105, 114, 111, 110, 109, 101, 110, 116, 69, 114, 114, 111, 114]⟩ 151 (.type "OSError"), en P ⟨#[73, 79, 69, 114, 114, 111, 114]⟩ 152 (.type "OSError"), en P ⟨#[111, 112, 101, 110]⟩ 153 (.builtin "open"), en P ⟨#[113, 117, 105, 116]⟩ 154 (.builtin "builtins.quit#opaque"), en P ⟨#[101, 120, 105, 116]⟩ 155 (.builtin "builtins.exit#opaque"), en P ⟨#[99, 111, 112, 121, 114, 105, 103, 104, 116]⟩ 156 (.builtin "builtins.copyright#opaque"), en P ⟨#[99, 114, 101, 100, 105, 116, 115]⟩ 157 (.builtin "builtins.credits#opaque"), en P ⟨#[108, 105, 99, 101, 110, 115, 101]⟩ 158 (.builtin "builtins.license#opaque"), en P ⟨#[104, 101, 108, 112]⟩ 159 (.builtin "builtins.help#opaque")] 159), #[]⟩
noncomputable def o1 (P : Params) : Obj := ⟨(.type "dict"), none, (.dict #[en P s1 162 (.ref 4), en P s160 163 (.ref 5)] 2), #[]⟩
noncomputable def o2 (P : Params) : Obj := ⟨.none, none, (.dict #[en P ⟨#[116, 121, 112, 101, 46, 95, 95, 115, 117, 98, 99, 108, 97, 115, 115, 101, 115, 95, 95, 46, 69, 120, 99, 101, 112, 116, 105, 111, 110, 46, 48]⟩ 242 (.int 55 0), en P ⟨#[116, 121, 112, 101, 46, 95, 95, 115, 117, 98, 99, 108, 97, 115, 115, 101, 115, 95, 95, 46, 69, 120, 99, 101, 112, 116, 105, 111, 110, 46, 110]⟩ 243 (.int 1 0)] 2), #[]⟩
noncomputable def o3 (P : Params) : Obj := ⟨(.type "dict"), none, (.dict #[en P s0 165 (.str s163 1024), q_0 P, q_1 P, q_2 P, q_3 P, q_4 P, q_5 P, q_6 P, q_7 P, q_8 P, q_9 P, q_10 P, q_11 P, q_12 P, q_13 P, q_14 P, q_15 P, q_16 P, q_17 P, q_18 P, q_19 P, q_20 P, q_21 P, q_22 P, q_23 P, q_24 P, q_25 P, q_26 P, q_27 P, q_28 P, q_29 P, q_30 P, q_31 P, q_32 P, q_33 P, q_34 P, q_35 P, q_36 P, q_37 P, q_38 P, q_39 P, q_40 P, q_41 P, q_42 P, q_43 P, q_44 P, q_45 P, q_46 P, q_47 P, q_48 P, q_49 P, q_50 P, q_51 P, q_52 P, q_53 P, q_54 P, q_55 P, q_56 P, q_57 P, q_58 P, q_59 P, q_60 P, q_61 P, q_62 P, q_63 P, q_64 P, q_65 P, q_66 P, q_67 P, q_68 P, q_69 P, q_70 P, q_71 P, q_72 P, q_73 P, q_74 P, q_75 P, q_76 P, q_77 P, q_78 P, q_79 P, q_80 P, q_81 P, q_82 P, q_83 P, q_84 P, q_85 P, q_86 P, en P s248 954 (.ref 580), en P s249 970 (.ref 587), en P s250 979 (.ref 594), en P s251 991 (.ref 601), en P s252 1003 (.ref 608), en P s253 1011 (.ref 615), en P s254 1017 (.ref 620), en P s255 1023 (.ref 625), en P s256 1033 (.ref 632), en P s257 1040 (.ref 639), en P s258 1046 (.ref 644), en P s259 1052 (.ref 649), en P s260 1060 (.ref 656), en P s261 1068 (.ref 663), en P s262 1082 (.ref 670), en P s263 1088 (.ref 675), en P s264 1094 (.ref 680), en P s265 1100 (.ref 685), en P s266 1108 (.ref 692), en P s267 1114 (.ref 697), en P s268 1120 (.ref 702)] 109), #[]⟩
noncomputable def o4 (P : Params) : Obj := ⟨(.type "module"), (some 0), .plain, #[]⟩
noncomputable def o5 (P : Params) : Obj := ⟨(.type "module"), (some 3), .plain, #[]⟩
noncomputable def o6 (P : Params) : Obj := ⟨(.type "dict"), none, (.dict #[] 0), #[]⟩
noncomputable def o7 (P : Params) : Obj := ⟨(.type "tuple"), none, (.seq #[] 0), #[]⟩
noncomputable def o8 (P : Params) : Obj := ⟨.none, none, (.fields #[]), #[]⟩
noncomputable def o9 (P : Params) : Obj := ⟨(.type "code"), none, (.fields #[(.str s269 176), (.str s269 177), (.str s167 178), (.int 1 0), (.int 0 0), (.int 0 0), (.int 0 0), (.int 0 0), (.ref 7), (.bool false), (.int 175 0), (.ref 8), .none, .none, .none, .none, (.int 179 0), (.int 1 0), (.str s167 180)]), #[]⟩
noncomputable def o10 (P : Params) : Obj := ⟨(.type "frame"), none, .plain, #[some (.ref 9), some (.ref 3), some (.ref 3), none, some (.str s160 164), none, some (.ref 0)]⟩
noncomputable def o11 (P : Params) : Obj := ⟨(.type "tuple"), none, (.seq #[] 0), #[]⟩
noncomputable def o12 (P : Params) : Obj := ⟨.none, none, (.fields #[(.int 1 0), (.int 0 0), (.ref 20), (.int 5 0), (.int 0 0), (.ref 27), (.int 9 0), (.int 0 0), (.ref 32), (.int 25 0), (.int 0 0), (.ref 39), (.int 30 0), (.int 0 0), (.ref 44), (.int 36 0), (.int 0 0), (.ref 51), (.int 38 0), (.int 0 0), (.ref 64), (.int 48 0), (.int 0 0), (.ref 86), (.int 52 0), (.int 0 0), (.ref 93), (.int 56 0), (.int 0 0), (.ref 100), (.int 66 0), (.int 0 0), (.ref 107), (.int 70 0), (.int 0 0), (.ref 114), (.int 72 0), (.int 0 0), (.ref 121), (.int 74 0), (.int 0 0), (.ref 128), (.int 78 0), (.int 0 0), (.ref 135), (.int 83 0), (.int 0 0), (.ref 142), (.int 89 0), (.int 0 0), (.ref 149), (.int 103 0), (.int 0 0), (.ref 156), (.int 114 0), (.int 0 0), (.ref 163), (.int 122 0), (.int 0 0), (.ref 170), (.int 127 0), (.int 0 0), (.ref 177), (.int 136 0), (.int 0 0), (.ref 184), (.int 141 0), (.int 0 0), (.ref 191), (.int 148 0), (.int 0 0), (.ref 198), (.int 156 0), (.int 0 0), (.ref 205), (.int 163 0), (.int 0 0), (.ref 212), (.int 183 0), (.int 0 0), (.ref 219), (.int 190 0), (.int 0 0), (.ref 224), (.int 194 0), (.int 0 0), (.ref 232), (.int 196 0), (.int 0 0), (.ref 239), (.int 201 0), (.int 0 0), (.ref 246), (.int 205 0), (.int 0 0), (.ref 253), (.int 215 0), (.int 0 0), (.ref 260), (.int 225 0), (.int 0 0), (.ref 267), (.int 259 0), (.int 0 0), (.ref 274), (.int 278 0), (.int 0 0), (.ref 281), (.int 283 0), (.int 0 0), (.ref 302), (.int 294 0), (.int 0 0), (.ref 331), (.int 300 0), (.int 0 0), (.ref 352), (.int 304 0), (.int 0 0), (.ref 359), (.int 306 0), (.int 0 0), (.ref 366), (.int 308 0), (.int 0 0), (.ref 373), (.int 312 0), (.int 0 0), (.ref 380), (.int 323 0), (.int 0 0), (.ref 387), (.int 325 0), (.int 0 0), (.ref 394), (.int 327 0), (.int 0 0), (.ref 401), (.int 333 0), (.int 0 0), (.ref 408), (.int 338 0), (.int 0 0), (.ref 415), (.int 344 0), (.int 0 0), (.ref 422), (.int 347 0), (.int 0 0), (.ref 429), (.int 353 0), (.int 0 0), (.ref 436), (.int 361 0), (.int 0 0), (.ref 443), (.int 367 0), (.int 0 0), (.ref 450), (.int 377 0), (.int 0 0), (.ref 457), (.int 385 0), (.int 0 0), (.ref 464), (.int 391 0), (.int 0 0), (.ref 471), (.int 399 0), (.int 0 0), (.ref 478), (.int 413 0), (.int 0 0), (.ref 485), (.int 415 0), (.int 0 0), (.ref 492), (.int 421 0), (.int 0 0), (.ref 499), (.int 423 0), (.int 0 0), (.ref 504), (.int 437 0), (.int 0 0), (.ref 511), (.int 441 0), (.int 0 0), (.ref 516), (.int 450 0), (.int 0 0), (.ref 523), (.int 456 0), (.int 0 0), (.ref 544), (.int 458 0), (.int 0 0), (.ref 551), (.int 469 0), (.int 0 0), (.ref 558), (.int 471 0), (.int 0 0), (.ref 565), (.int 477 0), (.int 0 0), (.ref 572), (.int 483 0), (.int 0 0), (.ref 579), (.int 488 0), (.int 0 0), (.ref 586), (.int 510 0), (.int 0 0), (.ref 593), (.int 520 0), (.int 0 0), (.ref 600), (.int 530 0), (.int 0 0), (.ref 607), (.int 541 0), (.int 0 0), (.ref 614), (.int 545 0), (.int 0 0), (.ref 619), (.int 564 0), (.int 0 0), (.ref 624), (.int 570 0), (.int 0 0), (.ref 631), (.int 575 0), (.int 0 0), (.ref 638), (.int 577 0), (.int 0 0), (.ref 643), (.int 592 0), (.int 0 0), (.ref 648), (.int 601 0), (.int 0 0), (.ref 655), (.int 605 0), (.int 0 0), (.ref 662), (.int 607 0), (.int 0 0), (.ref 669), (.int 624 0), (.int 0 0), (.ref 674), (.int 630 0), (.int 0 0), (.ref 679), (.int 636 0), (.int 0 0), (.ref 684), (.int 649 0), (.int 0 0), (.ref 691), (.int 655 0), (.int 0 0), (.ref 696), (.int 679 0), (.int 0 0), (.ref 701)]), #[]⟩
noncomputable def o13 (P : Params) : Obj := ⟨(.type "code"), none, (.fields #[(.str s269 182), (.str s269 183), (.str s167 184), (.int 1 0), (.int 0 0), (.int 0 0), (.int 0 0), (.int 0 0), (.ref 11), (.bool false), (.int 181 0), (.ref 12), .none, .none, .none, .none, (.int 185 0), (.int 1 0), (.str s167 186)]), #[]⟩
noncomputable def o14 (P : Params) : Obj := ⟨(.type "frame"), none, .plain, #[some (.ref 13), some (.ref 3), some (.ref 3), none, some (.str s160 164), none, some (.ref 0)]⟩
noncomputable def o15 (P : Params) : Obj := ⟨(.type "tuple"), none, (.seq #[] 0), #[]⟩
noncomputable def o16 (P : Params) : Obj := ⟨.none, none, (.fields #[]), #[]⟩
noncomputable def o17 (P : Params) : Obj := ⟨(.type "tuple"), none, (.seq #[(.str ⟨#[107]⟩ 190)] 0), #[]⟩
noncomputable def o18 (P : Params) : Obj := ⟨(.type "tuple"), none, (.seq #[] 0), #[]⟩
noncomputable def o19 (P : Params) : Obj := ⟨.none, none, (.func (mkF s169 s169 (st 0) 0 .none .none .none .none .none .none 0)), #[]⟩
noncomputable def o20 (P : Params) : Obj := ⟨(.type "code"), none, (.fields #[(.str s169 187), (.str s169 188), (.str s167 189), (.int 1 0), (.int 1 0), (.int 0 0), (.int 0 0), (.int 3 0), (.ref 15), (.bool true), (.int 181 0), (.ref 16), .none, (.ref 17), (.ref 18), (.ref 19), (.int 191 0), (.int 1 0), (.str s167 192)]), #[]⟩
noncomputable def F21 : FuncData := mkF s169 s169 (st 0) 3 .none .none .none (.str s160 164) (.ref 20) .none 0
noncomputable def o21 (P : Params) : Obj := ⟨.type "function", none, .func F21, #[]⟩
noncomputable def o22 (P : Params) : Obj := ⟨(.type "tuple"), none, (.seq #[] 0), #[]⟩
noncomputable def o23 (P : Params) : Obj := ⟨.none, none, (.fields #[]), #[]⟩
noncomputable def o24 (P : Params) : Obj := ⟨(.type "tuple"), none, (.seq #[(.str s271 199), (.str s272 200)] 0), #[]⟩
noncomputable def o25 (P : Params) : Obj := ⟨(.type "tuple"), none, (.seq #[] 0), #[]⟩
noncomputable def o26 (P : Params) : Obj := ⟨.none, none, (.func (mkF s170 s170 (st 2) 0 .none .none .none .none .none .none 0)), #[]⟩
noncomputable def o27 (P : Params) : Obj := ⟨(.type "code"), none, (.fields #[(.str s170 196), (.str s170 197), (.str s167 198), (.int 5 0), (.int 2 0), (.int 0 0), (.int 0 0), (.int 3 0), (.ref 22), (.bool true), (.int 181 0), (.ref 23), .none, (.ref 24), (.ref 25), (.ref 26), (.int 201 0), (.int 5 0), (.str s167 202)]), #[]⟩
noncomputable def F28 : FuncData := mkF s170 s170 (st 2) 3 .none .none .none (.str s273 194) (.ref 27) .none 0
noncomputable def o28 (P : Params) : Obj := ⟨.type "function", none, .func F28, #[]⟩
noncomputable def o29 (P : Params) : Obj := ⟨(.type "tuple"), none, (.seq #[] 0), #[]⟩
noncomputable def o30 (P : Params) : Obj := ⟨.none, none, (.fields #[]), #[]⟩
noncomputable def o31 (P : Params) : Obj := ⟨.none, none, (.func (mkF s171 s171 (st 3) 0 .none .none .none .none .none .none 0)), #[]⟩
noncomputable def o32 (P : Params) : Obj := ⟨(.type "code"), none, (.fields #[(.str s171 204), (.str s171 205), (.str s167 206), (.int 9 0), (.int 1 0), (.int 0 0), (.int 0 0), (.int 3 0), (.ref 29), (.bool true), (.int 181 0), (.ref 30), .none, .none, .none, (.ref 31), (.int 207 0), (.int 9 0), (.str s167 208)]), #[]⟩
noncomputable def F33 : FuncData := mkF s171 s171 (st 3) 3 .none .none .none (.str s273 194) (.ref 32) .none 0
noncomputable def o33 (P : Params) : Obj := ⟨.type "function", none, .func F33, #[]⟩
noncomputable def o34 (P : Params) : Obj := ⟨(.type "tuple"), none, (.seq #[] 0), #[]⟩
noncomputable def o35 (P : Params) : Obj := ⟨.none, none, (.fields #[]), #[]⟩
noncomputable def o36 (P : Params) : Obj := ⟨(.type "tuple"), none, (.seq #[(.str s271 213), (.str ⟨#[100, 105, 109, 115]⟩ 214)] 0), #[]⟩
noncomputable def o37 (P : Params) : Obj := ⟨(.type "tuple"), none, (.seq #[] 0), #[]⟩
noncomputable def o38 (P : Params) : Obj := ⟨.none, none, (.func (mkF s172 s172 (st 4) 0 .none .none .none .none .none .none 0)), #[]⟩
noncomputable def o39 (P : Params) : Obj := ⟨(.type "code"), none, (.fields #[(.str s172 210), (.str s172 211), (.str s167 212), (.int 25 0), (.int 1 0), (.int 0 0), (.int 0 0), (.int 3 0), (.ref 34), (.bool true), (.int 181 0), (.ref 35), .none, (.ref 36), (.ref 37), (.ref 38), (.int 215 0), (.int 25 0), (.str s167 216)]), #[]⟩
noncomputable def F40 : FuncData := mkF s172 s172 (st 4) 3 .none .none .none (.str s273 194) (.ref 39) .none 0
noncomputable def o40 (P : Params) : Obj := ⟨.type "function", none, .func F40, #[]⟩
noncomputable def o41 (P : Params) : Obj := ⟨(.type "tuple"), none, (.seq #[] 0), #[]⟩
noncomputable def o42 (P : Params) : Obj := ⟨.none, none, (.fields #[]), #[]⟩
noncomputable def o43 (P : Params) : Obj := ⟨.none, none, (.func (mkF s173 s173 (st 5) 0 .none .none .none .none .none .none 0)), #[]⟩
noncomputable def o44 (P : Params) : Obj := ⟨(.type "code"), none, (.fields #[(.str s173 218), (.str s173 219), (.str s167 220), (.int 30 0), (.int 1 0), (.int 0 0), (.int 0 0), (.int 3 0), (.ref 41), (.bool true), (.int 181 0), (.ref 42), .none, .none, .none, (.ref 43), (.int 221 0), (.int 30 0), (.str s167 222)]), #[]⟩
noncomputable def F45 : FuncData := mkF s173 s173 (st 5) 3 .none .none .none (.str s273 194) (.ref 44) .none 0
noncomputable def o45 (P : Params) : Obj := ⟨.type "function", none, .func F45, #[]⟩
noncomputable def o46 (P : Params) : Obj := ⟨(.type "tuple"), none, (.seq #[(.type "Exception")] 0), #[]⟩
noncomputable def o47 (P : Params) : Obj := ⟨(.type "builtin_function_or_method"), none, (.fields #[(.builtin "type.__prepare__"), (.type "type")]), #[]⟩
noncomputable def o48 (P : Params) : Obj := ⟨(.type "dict"), none, (.dict #[en P s275 233 (.str s276 224), en P s277 235 (.str s174 234), en P s278 237 (.int 36 236), en P s279 238 (.ref 53)] 4), #[]⟩
noncomputable def o49 (P : Params) : Obj := ⟨(.type "tuple"), none, (.seq #[] 0), #[]⟩
noncomputable def o50 (P : Params) : Obj := ⟨.none, none, (.fields #[]), #[]⟩
noncomputable def o51 (P : Params) : Obj := ⟨(.type "code"), none, (.fields #[(.str s174 228), (.str s174 229), (.str s167 230), (.int 36 0), (.int 0 0), (.int 0 0), (.int 0 0), (.int 0 0), (.ref 49), (.bool false), (.int 181 0), (.ref 50), .none, .none, .none, .none, (.int 231 0), (.int 36 0), (.str s167 232)]), #[]⟩
noncomputable def o52 (P : Params) : Obj := ⟨(.type "frame"), none, .plain, #[some (.ref 51), some (.ref 3), some (.ref 48), none, some (.str s276 224), none, some (.ref 0)]⟩
noncomputable def o53 (P : Params) : Obj := ⟨(.type "tuple"), none, (.seq #[] 0), #[]⟩
noncomputable def o54 (P : Params) : Obj := ⟨(.type "dict"), none, (.dict #[en P s275 233 (.str s276 224), en P s278 237 (.int 36 236), en P s279 238 (.ref 53), en P s280 240 (.ref 56), en P s2 241 .none] 3), #[]⟩
noncomputable def o55 (P : Params) : Obj := ⟨(.type "type"), none, (.cls (mkC s174 [(.type "Exception")] [(.ref 55), (.type "Exception"), (.type "BaseException"), (.type "object")] 54 s174 true [] [(.ref 75)] false none false)), #[some (.ref 46), none, some (.str s174 226), some (.str s174 234), some (.builtin "Exception.__new__"), some (.bool true)]⟩
noncomputable def o56 (P : Params) : Obj := ⟨(.type "getset_descriptor"), none, (.fields #[(.str s280 239), (.ref 55), (.builtin "ExceptionGroup.__weakref__"), .none]), #[]⟩
noncomputable def o57 (P : Params) : Obj := ⟨(.type "super"), none, (.fields #[(.ref 55), (.ref 55), (.ref 55)]), #[]⟩
noncomputable def o58 (P : Params) : Obj := ⟨(.type "builtin_function_or_method"), none, (.fields #[(.builtin "object.__init_subclass__"), (.ref 55)]), #[]⟩
noncomputable def o59 (P : Params) : Obj := ⟨(.type "tuple"), none, (.seq #[(.ref 55)] 0), #[]⟩
noncomputable def o60 (P : Params) : Obj := ⟨(.type "builtin_function_or_method"), none, (.fields #[(.builtin "type.__prepare__"), (.type "type")]), #[]⟩
noncomputable def o61 (P : Params) : Obj := ⟨(.type "dict"), none, (.dict #[en P s275 253 (.str s276 224), en P s277 255 (.str s175 254), en P s278 257 (.int 38 256), en P s281 265 (.ref 72), en P s279 267 (.ref 73)] 5), #[]⟩
noncomputable def o62 (P : Params) : Obj := ⟨(.type "tuple"), none, (.seq #[] 0), #[]⟩
noncomputable def o63 (P : Params) : Obj := ⟨.none, none, (.fields #[(.int 40 0), (.int 4 0), (.ref 71)]), #[]⟩
noncomputable def o64 (P : Params) : Obj := ⟨(.type "code"), none, (.fields #[(.str s175 248), (.str s175 249), (.str s167 250), (.int 38 0), (.int 0 0), (.int 0 0), (.int 0 0), (.int 0 0), (.ref 62), (.bool false), (.int 181 0), (.ref 63), .none, .none, .none, .none, (.int 251 0), (.int 38 0), (.str s167 252)]), #[]⟩
noncomputable def o65 (P : Params) : Obj := ⟨(.type "frame"), none, .plain, #[some (.ref 64), some (.ref 3), some (.ref 61), none, some (.str s276 224), none, some (.ref 0)]⟩
noncomputable def o66 (P : Params) : Obj := ⟨(.type "tuple"), none, (.seq #[] 0), #[]⟩
noncomputable def o67 (P : Params) : Obj := ⟨.none, none, (.fields #[]), #[]⟩
noncomputable def o68 (P : Params) : Obj := ⟨(.type "tuple"), none, (.seq #[(.str s282 261), (.str s283 262)] 0), #[]⟩
noncomputable def o69 (P : Params) : Obj := ⟨(.type "tuple"), none, (.seq #[] 0), #[]⟩
noncomputable def o70 (P : Params) : Obj := ⟨.none, none, (.func (mkF s281 s284 (sc 8 0) 0 .none .none .none .none .none .none 0)), #[]⟩
noncomputable def o71 (P : Params) : Obj := ⟨(.type "code"), none, (.fields #[(.str s281 258), (.str s284 259), (.str s167 260), (.int 40 0), (.int 2 0), (.int 0 0), (.int 0 0), (.int 3 0), (.ref 66), (.bool true), (.int 181 0), (.ref 67), .none, (.ref 68), (.ref 69), (.ref 70), (.int 263 0), (.int 40 0), (.str s167 264)]), #[]⟩
noncomputable def F72 : FuncData := mkF s281 s284 (sc 8 0) 3 .none .none .none (.str s276 224) (.ref 71) .none 0
noncomputable def o72 (P : Params) : Obj := ⟨.type "function", none, .func F72, #[]⟩
noncomputable def o73 (P : Params) : Obj := ⟨(.type "tuple"), none, (.seq #[(.str s283 266)] 0), #[]⟩
noncomputable def o74 (P : Params) : Obj := ⟨(.type "dict"), none, (.dict #[en P s275 253 (.str s276 224), en P s278 257 (.int 38 256), en P s281 265 (.ref 72), en P s279 267 (.ref 73), en P s2 268 .none] 2), #[]⟩
noncomputable def o75 (P : Params) : Obj := ⟨(.type "type"), none, (.cls (mkC s175 [(.ref 55)] [(.ref 75), (.ref 55), (.type "Exception"), (.type "BaseException"), (.type "object")] 74 s175 true [] [] false none false)), #[some (.ref 59), none, some (.str s175 246), some (.str s175 254), some (.builtin "Exception.__new__"), some (.bool true)]⟩
noncomputable def o76 (P : Params) : Obj := ⟨(.type "super"), none, (.fields #[(.ref 75), (.ref 75), (.ref 75)]), #[]⟩
noncomputable def o77 (P : Params) : Obj := ⟨(.type "builtin_function_or_method"), none, (.fields #[(.builtin "object.__init_subclass__"), (.ref 75)]), #[]⟩
noncomputable def o78 (P : Params) : Obj := ⟨(.type "tuple"), none, (.seq #[(.int 0 273), (.int 0 274)] 0), #[]⟩
noncomputable def o79 (P : Params) : Obj := ⟨(.type "tuple"), none, (.seq #[(.int 1 276), (.int 0 277)] 0), #[]⟩
noncomputable def o80 (P : Params) : Obj := ⟨(.type "tuple"), none, (.seq #[(.int 0 279), (.int 1 280)] 0), #[]⟩
noncomputable def o81 (P : Params) : Obj := ⟨(.type "tuple"), none, (.seq #[] 0), #[]⟩
noncomputable def o82 (P : Params) : Obj := ⟨.none, none, (.fields #[]), #[]⟩
noncomputable def o83 (P : Params) : Obj := ⟨(.type "tuple"), none, (.seq #[(.str ⟨#[97]⟩ 290), (.str ⟨#[98]⟩ 291)] 0), #[]⟩
noncomputable def o84 (P : Params) : Obj := ⟨(.type "tuple"), none, (.seq #[] 0), #[]⟩
noncomputable def o85 (P : Params) : Obj := ⟨.none, none, (.func (mkF s181 s181 (st 15) 0 .none .none .none .none .none .none 0)), #[]⟩
noncomputable def o86 (P : Params) : Obj := ⟨(.type "code"), none, (.fields #[(.str s181 287), (.str s181 288), (.str s167 289), (.int 48 0), (.int 2 0), (.int 0 0), (.int 0 0), (.int 3 0), (.ref 81), (.bool true), (.int 181 0), (.ref 82), .none, (.ref 83), (.ref 84), (.ref 85), (.int 292 0), (.int 48 0), (.str s167 293)]), #[]⟩
noncomputable def F87 : FuncData := mkF s181 s181 (st 15) 3 .none .none .none (.str s287 271) (.ref 86) .none 0
noncomputable def o87 (P : Params) : Obj := ⟨.type "function", none, .func F87, #[]⟩
noncomputable def o88 (P : Params) : Obj := ⟨(.type "tuple"), none, (.seq #[] 0), #[]⟩
noncomputable def o89 (P : Params) : Obj := ⟨.none, none, (.fields #[]), #[]⟩
noncomputable def o90 (P : Params) : Obj := ⟨(.type "tuple"), none, (.seq #[(.str s288 298), (.str s289 299)] 0), #[]⟩
noncomputable def o91 (P : Params) : Obj := ⟨(.type "tuple"), none, (.seq #[] 0), #[]⟩
noncomputable def o92 (P : Params) : Obj := ⟨.none, none, (.func (mkF s182 s182 (st 16) 0 .none .none .none .none .none .none 0)), #[]⟩
noncomputable def o93 (P : Params) : Obj := ⟨(.type "code"), none, (.fields #[(.str s182 295), (.str s182 296), (.str s167 297), (.int 52 0), (.int 2 0), (.int 0 0), (.int 0 0), (.int 3 0), (.ref 88), (.bool true), (.int 181 0), (.ref 89), .none, (.ref 90), (.ref 91), (.ref 92), (.int 300 0), (.int 52 0), (.str s167 301)]), #[]⟩
noncomputable def F94 : FuncData := mkF s182 s182 (st 16) 3 .none .none .none (.str s287 271) (.ref 93) .none 0
noncomputable def o94 (P : Params) : Obj := ⟨.type "function", none, .func F94, #[]⟩
noncomputable def o95 (P : Params) : Obj := ⟨(.type "tuple"), none, (.seq #[] 0), #[]⟩
noncomputable def o96 (P : Params) : Obj := ⟨.none, none, (.fields #[]), #[]⟩
noncomputable def o97 (P : Params) : Obj := ⟨(.type "tuple"), none, (.seq #[(.str s288 306), (.str s289 307), (.str ⟨#[99, 111, 109, 109, 111, 110]⟩ 308)] 0), #[]⟩
noncomputable def o98 (P : Params) : Obj := ⟨(.type "tuple"), none, (.seq #[] 0), #[]⟩
noncomputable def o99 (P : Params) : Obj := ⟨.none, none, (.func (mkF s183 s183 (st 17) 0 .none .none .none .none .none .none 0)), #[]⟩
noncomputable def o100 (P : Params) : Obj := ⟨(.type "code"), none, (.fields #[(.str s183 303), (.str s183 304), (.str s167 305), (.int 56 0), (.int 2 0), (.int 0 0), (.int 0 0), (.int 3 0), (.ref 95), (.bool true), (.int 181 0), (.ref 96), .none, (.ref 97), (.ref 98), (.ref 99), (.int 309 0), (.int 56 0), (.str s167 310)]), #[]⟩
noncomputable def F101 : FuncData := mkF s183 s183 (st 17) 3 .none .none .none (.str s287 271) (.ref 100) .none 0
noncomputable def o101 (P : Params) : Obj := ⟨.type "function", none, .func F101, #[]⟩
noncomputable def o102 (P : Params) : Obj := ⟨(.type "tuple"), none, (.seq #[] 0), #[]⟩
noncomputable def o103 (P : Params) : Obj := ⟨.none, none, (.fields #[]), #[]⟩
noncomputable def o104 (P : Params) : Obj := ⟨(.type "tuple"), none, (.seq #[(.str s288 315)] 0), #[]⟩
noncomputable def o105 (P : Params) : Obj := ⟨(.type "tuple"), none, (.seq #[] 0), #[]⟩
noncomputable def o106 (P : Params) : Obj := ⟨.none, none, (.func (mkF s184 s184 (st 18) 0 .none .none .none .none .none .none 0)), #[]⟩
noncomputable def o107 (P : Params) : Obj := ⟨(.type "code"), none, (.fields #[(.str s184 312), (.str s184 313), (.str s167 314), (.int 66 0), (.int 1 0), (.int 0 0), (.int 0 0), (.int 3 0), (.ref 102), (.bool true), (.int 181 0), (.ref 103), .none, (.ref 104), (.ref 105), (.ref 106), (.int 316 0), (.int 66 0), (.str s167 317)]), #[]⟩
noncomputable def F108 : FuncData := mkF s184 s184 (st 18) 3 .none .none .none (.str s287 271) (.ref 107) .none 0
noncomputable def o108 (P : Params) : Obj := ⟨.type "function", none, .func F108, #[]⟩
noncomputable def o109 (P : Params) : Obj := ⟨(.type "tuple"), none, (.seq #[] 0), #[]⟩
noncomputable def o110 (P : Params) : Obj := ⟨.none, none, (.fields #[]), #[]⟩
noncomputable def o111 (P : Params) : Obj := ⟨(.type "tuple"), none, (.seq #[(.str s291 322)] 0), #[]⟩
noncomputable def o112 (P : Params) : Obj := ⟨(.type "tuple"), none, (.seq #[] 0), #[]⟩
noncomputable def o113 (P : Params) : Obj := ⟨.none, none, (.func (mkF s185 s185 (st 19) 0 .none .none .none .none .none .none 0)), #[]⟩
noncomputable def o114 (P : Params) : Obj := ⟨(.type "code"), none, (.fields #[(.str s185 319), (.str s185 320), (.str s167 321), (.int 70 0), (.int 1 0), (.int 0 0), (.int 0 0), (.int 3 0), (.ref 109), (.bool true), (.int 181 0), (.ref 110), .none, (.ref 111), (.ref 112), (.ref 113), (.int 323 0), (.int 70 0), (.str s167 324)]), #[]⟩
noncomputable def F115 : FuncData := mkF s185 s185 (st 19) 3 .none .none .none (.str s287 271) (.ref 114) .none 0
noncomputable def o115 (P : Params) : Obj := ⟨.type "function", none, .func F115, #[]⟩
noncomputable def o116 (P : Params) : Obj := ⟨(.type "tuple"), none, (.seq #[] 0), #[]⟩
noncomputable def o117 (P : Params) : Obj := ⟨.none, none, (.fields #[]), #[]⟩
noncomputable def o118 (P : Params) : Obj := ⟨(.type "tuple"), none, (.seq #[(.str s291 329)] 0), #[]⟩
noncomputable def o119 (P : Params) : Obj := ⟨(.type "tuple"), none, (.seq #[] 0), #[]⟩
noncomputable def o120 (P : Params) : Obj := ⟨.none, none, (.func (mkF s186 s186 (st 20) 0 .none .none .none .none .none .none 0)), #[]⟩
noncomputable def o121 (P : Params) : Obj := ⟨(.type "code"), none, (.fields #[(.str s186 326), (.str s186 327), (.str s167 328), (.int 72 0), (.int 1 0), (.int 0 0), (.int 0 0), (.int 3 0), (.ref 116), (.bool true), (.int 181 0), (.ref 117), .none, (.ref 118), (.ref 119), (.ref 120), (.int 330 0), (.int 72 0), (.str s167 331)]), #[]⟩
noncomputable def F122 : FuncData := mkF s186 s186 (st 20) 3 .none .none .none (.str s287 271) (.ref 121) .none 0
noncomputable def o122 (P : Params) : Obj := ⟨.type "function", none, .func F122, #[]⟩
noncomputable def o123 (P : Params) : Obj := ⟨(.type "tuple"), none, (.seq #[] 0), #[]⟩
noncomputable def o124 (P : Params) : Obj := ⟨.none, none, (.fields #[]), #[]⟩
noncomputable def o125 (P : Params) : Obj := ⟨(.type "tuple"), none, (.seq #[(.str s291 336)] 0), #[]⟩
noncomputable def o126 (P : Params) : Obj := ⟨(.type "tuple"), none, (.seq #[] 0), #[]⟩
noncomputable def o127 (P : Params) : Obj := ⟨.none, none, (.func (mkF s187 s187 (st 21) 0 .none .none .none .none .none .none 0)), #[]⟩
noncomputable def o128 (P : Params) : Obj := ⟨(.type "code"), none, (.fields #[(.str s187 333), (.str s187 334), (.str s167 335), (.int 74 0), (.int 1 0), (.int 0 0), (.int 0 0), (.int 3 0), (.ref 123), (.bool true), (.int 181 0), (.ref 124), .none, (.ref 125), (.ref 126), (.ref 127), (.int 337 0), (.int 74 0), (.str s167 338)]), #[]⟩
noncomputable def F129 : FuncData := mkF s187 s187 (st 21) 3 .none .none .none (.str s287 271) (.ref 128) .none 0
noncomputable def o129 (P : Params) : Obj := ⟨.type "function", none, .func F129, #[]⟩
noncomputable def o130 (P : Params) : Obj := ⟨(.type "tuple"), none, (.seq #[] 0), #[]⟩
noncomputable def o131 (P : Params) : Obj := ⟨.none, none, (.fields #[]), #[]⟩
noncomputable def o132 (P : Params) : Obj := ⟨(.type "tuple"), none, (.seq #[(.str s291 343), (.str s292 344)] 0), #[]⟩
noncomputable def o133 (P : Params) : Obj := ⟨(.type "tuple"), none, (.seq #[] 0), #[]⟩
noncomputable def o134 (P : Params) : Obj := ⟨.none, none, (.func (mkF s188 s188 (st 22) 0 .none .none .none .none .none .none 0)), #[]⟩
noncomputable def o135 (P : Params) : Obj := ⟨(.type "code"), none, (.fields #[(.str s188 340), (.str s188 341), (.str s167 342), (.int 78 0), (.int 1 0), (.int 0 0), (.int 0 0), (.int 3 0), (.ref 130), (.bool true), (.int 181 0), (.ref 131), .none, (.ref 132), (.ref 133), (.ref 134), (.int 345 0), (.int 78 0), (.str s167 346)]), #[]⟩
noncomputable def F136 : FuncData := mkF s188 s188 (st 22) 3 .none .none .none (.str s287 271) (.ref 135) .none 0
noncomputable def o136 (P : Params) : Obj := ⟨.type "function", none, .func F136, #[]⟩
noncomputable def o137 (P : Params) : Obj := ⟨(.type "tuple"), none, (.seq #[] 0), #[]⟩
noncomputable def o138 (P : Params) : Obj := ⟨.none, none, (.fields #[]), #[]⟩
noncomputable def o139 (P : Params) : Obj := ⟨(.type "tuple"), none, (.seq #[(.str s288 351), (.str s289 352), (.str ⟨#[108, 111, 119]⟩ 353), (.str s294 354)] 0), #[]⟩
noncomputable def o140 (P : Params) : Obj := ⟨(.type "tuple"), none, (.seq #[] 0), #[]⟩
noncomputable def o141 (P : Params) : Obj := ⟨.none, none, (.func (mkF s189 s189 (st 23) 0 .none .none .none .none .none .none 0)), #[]⟩
noncomputable def o142 (P : Params) : Obj := ⟨(.type "code"), none, (.fields #[(.str s189 348), (.str s189 349), (.str s167 350), (.int 83 0), (.int 2 0), (.int 0 0), (.int 0 0), (.int 3 0), (.ref 137), (.bool true), (.int 181 0), (.ref 138), .none, (.ref 139), (.ref 140), (.ref 141), (.int 355 0), (.int 83 0), (.str s167 356)]), #[]⟩
noncomputable def F143 : FuncData := mkF s189 s189 (st 23) 3 .none .none .none (.str s287 271) (.ref 142) .none 0
noncomputable def o143 (P : Params) : Obj := ⟨.type "function", none, .func F143, #[]⟩
noncomputable def o144 (P : Params) : Obj := ⟨(.type "tuple"), none, (.seq #[] 0), #[]⟩
noncomputable def o145 (P : Params) : Obj := ⟨.none, none, (.fields #[]), #[]⟩
noncomputable def o146 (P : Params) : Obj := ⟨(.type "tuple"), none, (.seq #[(.str s291 361), (.str s288 362), (.str s289 363), (.str s295 364)] 0), #[]⟩
noncomputable def o147 (P : Params) : Obj := ⟨(.type "tuple"), none, (.seq #[] 0), #[]⟩
noncomputable def o148 (P : Params) : Obj := ⟨.none, none, (.func (mkF s190 s190 (st 24) 0 .none .none .none .none .none .none 0)), #[]⟩
noncomputable def o149 (P : Params) : Obj := ⟨(.type "code"), none, (.fields #[(.str s190 358), (.str s190 359), (.str s167 360), (.int 89 0), (.int 1 0), (.int 0 0), (.int 0 0), (.int 3 0), (.ref 144), (.bool true), (.int 181 0), (.ref 145), .none, (.ref 146), (.ref 147), (.ref 148), (.int 365 0), (.int 89 0), (.str s167 366)]), #[]⟩
noncomputable def F150 : FuncData := mkF s190 s190 (st 24) 3 .none .none .none (.str s287 271) (.ref 149) .none 0
noncomputable def o150 (P : Params) : Obj := ⟨.type "function", none, .func F150, #[]⟩
noncomputable def o151 (P : Params) : Obj := ⟨(.type "tuple"), none, (.seq #[] 0), #[]⟩
noncomputable def o152 (P : Params) : Obj := ⟨.none, none, (.fields #[]), #[]⟩
noncomputable def o153 (P : Params) : Obj := ⟨(.type "tuple"), none, (.seq #[(.str s288 377), (.str s294 378), (.str s296 379), (.str s297 380)] 0), #[]⟩
noncomputable def o154 (P : Params) : Obj := ⟨(.type "tuple"), none, (.seq #[] 0), #[]⟩
noncomputable def o155 (P : Params) : Obj := ⟨.none, none, (.func (mkF s193 s193 (st 28) 0 .none .none .none .none .none .none 0)), #[]⟩
noncomputable def o156 (P : Params) : Obj := ⟨(.type "code"), none, (.fields #[(.str s193 374), (.str s193 375), (.str s167 376), (.int 103 0), (.int 1 0), (.int 0 0), (.int 0 0), (.int 3 0), (.ref 151), (.bool true), (.int 181 0), (.ref 152), .none, (.ref 153), (.ref 154), (.ref 155), (.int 381 0), (.int 103 0), (.str s167 382)]), #[]⟩
noncomputable def F157 : FuncData := mkF s193 s193 (st 28) 3 .none .none .none (.str s298 368) (.ref 156) .none 0
noncomputable def o157 (P : Params) : Obj := ⟨.type "function", none, .func F157, #[]⟩
noncomputable def o158 (P : Params) : Obj := ⟨(.type "tuple"), none, (.seq #[] 0), #[]⟩
noncomputable def o159 (P : Params) : Obj := ⟨.none, none, (.fields #[]), #[]⟩
noncomputable def o160 (P : Params) : Obj := ⟨(.type "tuple"), none, (.seq #[(.str s291 387)] 0), #[]⟩
noncomputable def o161 (P : Params) : Obj := ⟨(.type "tuple"), none, (.seq #[] 0), #[]⟩
noncomputable def o162 (P : Params) : Obj := ⟨.none, none, (.func (mkF s194 s194 (st 29) 0 .none .none .none .none .none .none 0)), #[]⟩
noncomputable def o163 (P : Params) : Obj := ⟨(.type "code"), none, (.fields #[(.str s194 384), (.str s194 385), (.str s167 386), (.int 114 0), (.int 1 0), (.int 0 0), (.int 0 0), (.int 3 0), (.ref 158), (.bool true), (.int 181 0), (.ref 159), .none, (.ref 160), (.ref 161), (.ref 162), (.int 388 0), (.int 114 0), (.str s167 389)]), #[]⟩
noncomputable def F164 : FuncData := mkF s194 s194 (st 29) 3 .none .none .none (.str s298 368) (.ref 163) .none 0
noncomputable def o164 (P : Params) : Obj := ⟨.type "function", none, .func F164, #[]⟩
noncomputable def o165 (P : Params) : Obj := ⟨(.type "tuple"), none, (.seq #[] 0), #[]⟩
noncomputable def o166 (P : Params) : Obj := ⟨.none, none, (.fields #[]), #[]⟩
noncomputable def o167 (P : Params) : Obj := ⟨(.type "tuple"), none, (.seq #[(.str s291 394), (.str s295 395), (.str s299 396), (.str ⟨#[115, 104, 105, 102, 116]⟩ 397)] 0), #[]⟩
noncomputable def o168 (P : Params) : Obj := ⟨(.type "tuple"), none, (.seq #[] 0), #[]⟩
noncomputable def o169 (P : Params) : Obj := ⟨.none, none, (.func (mkF s195 s195 (st 30) 0 .none .none .none .none .none .none 0)), #[]⟩
noncomputable def o170 (P : Params) : Obj := ⟨(.type "code"), none, (.fields #[(.str s195 391), (.str s195 392), (.str s167 393), (.int 122 0), (.int 3 0), (.int 0 0), (.int 0 0), (.int 3 0), (.ref 165), (.bool true), (.int 181 0), (.ref 166), .none, (.ref 167), (.ref 168), (.ref 169), (.int 398 0), (.int 122 0), (.str s167 399)]), #[]⟩
noncomputable def F171 : FuncData := mkF s195 s195 (st 30) 3 .none .none .none (.str s298 368) (.ref 170) .none 0
noncomputable def o171 (P : Params) : Obj := ⟨.type "function", none, .func F171, #[]⟩
noncomputable def o172 (P : Params) : Obj := ⟨(.type "tuple"), none, (.seq #[] 0), #[]⟩
noncomputable def o173 (P : Params) : Obj := ⟨.none, none, (.fields #[]), #[]⟩
noncomputable def o174 (P : Params) : Obj := ⟨(.type "tuple"), none, (.seq #[(.str s291 404), (.str s299 405), (.str s295 406), (.str s288 407)] 0), #[]⟩
noncomputable def o175 (P : Params) : Obj := ⟨(.type "tuple"), none, (.seq #[] 0), #[]⟩
noncomputable def o176 (P : Params) : Obj := ⟨.none, none, (.func (mkF s196 s196 (st 31) 0 .none .none .none .none .none .none 0)), #[]⟩
noncomputable def o177 (P : Params) : Obj := ⟨(.type "code"), none, (.fields #[(.str s196 401), (.str s196 402), (.str s167 403), (.int 127 0), (.int 2 0), (.int 0 0), (.int 0 0), (.int 3 0), (.ref 172), (.bool true), (.int 181 0), (.ref 173), .none, (.ref 174), (.ref 175), (.ref 176), (.int 408 0), (.int 127 0), (.str s167 409)]), #[]⟩
noncomputable def F178 : FuncData := mkF s196 s196 (st 31) 3 .none .none .none (.str s298 368) (.ref 177) .none 0
noncomputable def o178 (P : Params) : Obj := ⟨.type "function", none, .func F178, #[]⟩
noncomputable def o179 (P : Params) : Obj := ⟨(.type "tuple"), none, (.seq #[] 0), #[]⟩
noncomputable def o180 (P : Params) : Obj := ⟨.none, none, (.fields #[]), #[]⟩
noncomputable def o181 (P : Params) : Obj := ⟨(.type "tuple"), none, (.seq #[(.str s301 414), (.str s302 415)] 0), #[]⟩
noncomputable def o182 (P : Params) : Obj := ⟨(.type "tuple"), none, (.seq #[] 0), #[]⟩
noncomputable def o183 (P : Params) : Obj := ⟨.none, none, (.func (mkF s197 s197 (st 32) 0 .none .none .none .none .none .none 0)), #[]⟩
noncomputable def o184 (P : Params) : Obj := ⟨(.type "code"), none, (.fields #[(.str s197 411), (.str s197 412), (.str s167 413), (.int 136 0), (.int 1 0), (.int 0 0), (.int 0 0), (.int 3 0), (.ref 179), (.bool true), (.int 181 0), (.ref 180), .none, (.ref 181), (.ref 182), (.ref 183), (.int 416 0), (.int 136 0), (.str s167 417)]), #[]⟩
noncomputable def F185 : FuncData := mkF s197 s197 (st 32) 3 .none .none .none (.str s298 368) (.ref 184) .none 0
noncomputable def o185 (P : Params) : Obj := ⟨.type "function", none, .func F185, #[]⟩
noncomputable def o186 (P : Params) : Obj := ⟨(.type "tuple"), none, (.seq #[] 0), #[]⟩
noncomputable def o187 (P : Params) : Obj := ⟨.none, none, (.fields #[]), #[]⟩
noncomputable def o188 (P : Params) : Obj := ⟨(.type "tuple"), none, (.seq #[(.str s291 422), (.str s299 423), (.str s303 424), (.str s301 425), (.str s295 426), (.str s296 427)] 0), #[]⟩
noncomputable def o189 (P : Params) : Obj := ⟨(.type "tuple"), none, (.seq #[] 0), #[]⟩
noncomputable def o190 (P : Params) : Obj := ⟨.none, none, (.func (mkF s198 s198 (st 33) 0 .none .none .none .none .none .none 0)), #[]⟩
noncomputable def o191 (P : Params) : Obj := ⟨(.type "code"), none, (.fields #[(.str s198 419), (.str s198 420), (.str s167 421), (.int 141 0), (.int 2 0), (.int 0 0), (.int 0 0), (.int 3 0), (.ref 186), (.bool true), (.int 181 0), (.ref 187), .none, (.ref 188), (.ref 189), (.ref 190), (.int 428 0), (.int 141 0), (.str s167 429)]), #[]⟩
noncomputable def F192 : FuncData := mkF s198 s198 (st 33) 3 .none .none .none (.str s298 368) (.ref 191) .none 0
noncomputable def o192 (P : Params) : Obj := ⟨.type "function", none, .func F192, #[]⟩
noncomputable def o193 (P : Params) : Obj := ⟨(.type "tuple"), none, (.seq #[] 0), #[]⟩
noncomputable def o194 (P : Params) : Obj := ⟨.none, none, (.fields #[]), #[]⟩
noncomputable def o195 (P : Params) : Obj := ⟨(.type "tuple"), none, (.seq #[(.str s291 434), (.str s304 435), (.str s288 436), (.str s301 437)] 0), #[]⟩
noncomputable def o196 (P : Params) : Obj := ⟨(.type "tuple"), none, (.seq #[] 0), #[]⟩
noncomputable def o197 (P : Params) : Obj := ⟨.none, none, (.func (mkF s199 s199 (st 34) 0 .none .none .none .none .none .none 0)), #[]⟩
noncomputable def o198 (P : Params) : Obj := ⟨(.type "code"), none, (.fields #[(.str s199 431), (.str s199 432), (.str s167 433), (.int 148 0), (.int 2 0), (.int 0 0), (.int 0 0), (.int 3 0), (.ref 193), (.bool true), (.int 181 0), (.ref 194), .none, (.ref 195), (.ref 196), (.ref 197), (.int 438 0), (.int 148 0), (.str s167 439)]), #[]⟩
noncomputable def F199 : FuncData := mkF s199 s199 (st 34) 3 .none .none .none (.str s298 368) (.ref 198) .none 0
noncomputable def o199 (P : Params) : Obj := ⟨.type "function", none, .func F199, #[]⟩
noncomputable def o200 (P : Params) : Obj := ⟨(.type "tuple"), none, (.seq #[] 0), #[]⟩
noncomputable def o201 (P : Params) : Obj := ⟨.none, none, (.fields #[]), #[]⟩
noncomputable def o202 (P : Params) : Obj := ⟨(.type "tuple"), none, (.seq #[(.str s291 444), (.str s299 445), (.str s303 446), (.str s301 447), (.str s295 448), (.str s305 449), (.str s306 450)] 0), #[]⟩
noncomputable def o203 (P : Params) : Obj := ⟨(.type "tuple"), none, (.seq #[] 0), #[]⟩
noncomputable def o204 (P : Params) : Obj := ⟨.none, none, (.func (mkF s200 s200 (st 35) 0 .none .none .none .none .none .none 0)), #[]⟩
noncomputable def o205 (P : Params) : Obj := ⟨(.type "code"), none, (.fields #[(.str s200 441), (.str s200 442), (.str s167 443), (.int 156 0), (.int 2 0), (.int 0 0), (.int 0 0), (.int 3 0), (.ref 200), (.bool true), (.int 181 0), (.ref 201), .none, (.ref 202), (.ref 203), (.ref 204), (.int 451 0), (.int 156 0), (.str s167 452)]), #[]⟩
noncomputable def F206 : FuncData := mkF s200 s200 (st 35) 3 .none .none .none (.str s298 368) (.ref 205) .none 0
noncomputable def o206 (P : Params) : Obj := ⟨.type "function", none, .func F206, #[]⟩
noncomputable def o207 (P : Params) : Obj := ⟨(.type "tuple"), none, (.seq #[] 0), #[]⟩
noncomputable def o208 (P : Params) : Obj := ⟨.none, none, (.fields #[]), #[]⟩
noncomputable def o209 (P : Params) : Obj := ⟨(.type "tuple"), none, (.seq #[(.str ⟨#[120, 115]⟩ 457), (.str s299 458), (.str s305 459), (.str s306 460), (.str s304 461), (.str ⟨#[119, 105, 100, 101]⟩ 462), (.str ⟨#[109, 105, 110, 117, 115]⟩ 463), (.str s291 464), (.str s296 465), (.str ⟨#[102, 105, 120, 101, 100, 95, 119, 105, 100, 116, 104]⟩ 466), (.str ⟨#[115, 99, 105, 101, 110, 116, 105, 102, 105, 99, 95, 119, 105, 100, 116, 104]⟩ 467)] 0), #[]⟩
noncomputable def o210 (P : Params) : Obj := ⟨(.type "tuple"), none, (.seq #[] 0), #[]⟩
noncomputable def o211 (P : Params) : Obj := ⟨.none, none, (.func (mkF s201 s201 (st 36) 0 .none .none .none .none .none .none 0)), #[]⟩
noncomputable def o212 (P : Params) : Obj := ⟨(.type "code"), none, (.fields #[(.str s201 454), (.str s201 455), (.str s167 456), (.int 163 0), (.int 2 0), (.int 0 0), (.int 0 0), (.int 3 0), (.ref 207), (.bool true), (.int 181 0), (.ref 208), .none, (.ref 209), (.ref 210), (.ref 211), (.int 468 0), (.int 163 0), (.str s167 469)]), #[]⟩
noncomputable def F213 : FuncData := mkF s201 s201 (st 36) 3 .none .none .none (.str s298 368) (.ref 212) .none 0
noncomputable def o213 (P : Params) : Obj := ⟨.type "function", none, .func F213, #[]⟩
noncomputable def o214 (P : Params) : Obj := ⟨(.type "tuple"), none, (.seq #[] 0), #[]⟩
noncomputable def o215 (P : Params) : Obj := ⟨.none, none, (.fields #[]), #[]⟩
noncomputable def o216 (P : Params) : Obj := ⟨(.type "tuple"), none, (.seq #[(.str s291 474), (.str ⟨#[102, 111, 114, 109]⟩ 475), (.str s301 476)] 0), #[]⟩
noncomputable def o217 (P : Params) : Obj := ⟨(.type "tuple"), none, (.seq #[] 0), #[]⟩
noncomputable def o218 (P : Params) : Obj := ⟨.none, none, (.func (mkF s202 s202 (st 37) 0 .none .none .none .none .none .none 0)), #[]⟩
noncomputable def o219 (P : Params) : Obj := ⟨(.type "code"), none, (.fields #[(.str s202 471), (.str s202 472), (.str s167 473), (.int 183 0), (.int 2 0), (.int 0 0), (.int 0 0), (.int 3 0), (.ref 214), (.bool true), (.int 181 0), (.ref 215), .none, (.ref 216), (.ref 217), (.ref 218), (.int 477 0), (.int 183 0), (.str s167 478)]), #[]⟩
noncomputable def F220 : FuncData := mkF s202 s202 (st 37) 3 .none .none .none (.str s298 368) (.ref 219) .none 0
noncomputable def o220 (P : Params) : Obj := ⟨.type "function", none, .func F220, #[]⟩
noncomputable def o221 (P : Params) : Obj := ⟨(.type "tuple"), none, (.seq #[] 0), #[]⟩
noncomputable def o222 (P : Params) : Obj := ⟨.none, none, (.fields #[]), #[]⟩
noncomputable def o223 (P : Params) : Obj := ⟨.none, none, (.func (mkF s203 s203 (st 38) 0 .none .none .none .none .none .none 0)), #[]⟩
noncomputable def o224 (P : Params) : Obj := ⟨(.type "code"), none, (.fields #[(.str s203 480), (.str s203 481), (.str s167 482), (.int 190 0), (.int 2 0), (.int 0 0), (.int 0 0), (.int 3 0), (.ref 221), (.bool true), (.int 181 0), (.ref 222), .none, .none, .none, (.ref 223), (.int 483 0), (.int 190 0), (.str s167 484)]), #[]⟩
noncomputable def F225 : FuncData := mkF s203 s203 (st 38) 3 .none .none .none (.str s298 368) (.ref 224) .none 0
noncomputable def o225 (P : Params) : Obj := ⟨.type "function", none, .func F225, #[]⟩
noncomputable def o226 (P : Params) : Obj := ⟨(.type "tuple"), none, (.seq #[(.int 7 486)] 0), #[]⟩
noncomputable def o227 (P : Params) : Obj := ⟨(.type "tuple"), none, (.seq #[] 0), #[]⟩
noncomputable def o228 (P : Params) : Obj := ⟨.none, none, (.fields #[]), #[]⟩
noncomputable def o229 (P : Params) : Obj := ⟨(.type "tuple"), none, (.seq #[(.str s291 490), (.str s299 491)] 0), #[]⟩
noncomputable def o230 (P : Params) : Obj := ⟨(.type "tuple"), none, (.seq #[] 0), #[]⟩
noncomputable def o231 (P : Params) : Obj := ⟨.none, none, (.func (mkF s204 s204 (st 39) 0 .none .none .none .none .none .none 0)), #[]⟩
noncomputable def o232 (P : Params) : Obj := ⟨(.type "code"), none, (.fields #[(.str s204 487), (.str s204 488), (.str s167 489), (.int 194 0), (.int 2 0), (.int 0 0), (.int 0 0), (.int 3 0), (.ref 227), (.bool true), (.int 181 0), (.ref 228), .none, (.ref 229), (.ref 230), (.ref 231), (.int 492 0), (.int 194 0), (.str s167 493)]), #[]⟩
noncomputable def F233 : FuncData := mkF s204 s204 (st 39) 3 (.ref 226) .none .none (.str s298 368) (.ref 232) .none 0
noncomputable def o233 (P : Params) : Obj := ⟨.type "function", none, .func F233, #[]⟩
noncomputable def o234 (P : Params) : Obj := ⟨(.type "tuple"), none, (.seq #[] 0), #[]⟩
noncomputable def o235 (P : Params) : Obj := ⟨.none, none, (.fields #[]), #[]⟩
noncomputable def o236 (P : Params) : Obj := ⟨(.type "tuple"), none, (.seq #[(.str s301 498), (.str s313 499), (.str s314 500), (.str ⟨#[99, 104, 97, 114]⟩ 501)] 0), #[]⟩
noncomputable def o237 (P : Params) : Obj := ⟨(.type "tuple"), none, (.seq #[] 0), #[]⟩
noncomputable def o238 (P : Params) : Obj := ⟨.none, none, (.func (mkF s205 s205 (st 40) 0 .none .none .none .none .none .none 0)), #[]⟩
noncomputable def o239 (P : Params) : Obj := ⟨(.type "code"), none, (.fields #[(.str s205 495), (.str s205 496), (.str s167 497), (.int 196 0), (.int 2 0), (.int 0 0), (.int 0 0), (.int 3 0), (.ref 234), (.bool true), (.int 181 0), (.ref 235), .none, (.ref 236), (.ref 237), (.ref 238), (.int 502 0), (.int 196 0), (.str s167 503)]), #[]⟩
noncomputable def F240 : FuncData := mkF s205 s205 (st 40) 3 .none .none .none (.str s298 368) (.ref 239) .none 0
noncomputable def o240 (P : Params) : Obj := ⟨.type "function", none, .func F240, #[]⟩
noncomputable def o241 (P : Params) : Obj := ⟨(.type "tuple"), none, (.seq #[] 0), #[]⟩
noncomputable def o242 (P : Params) : Obj := ⟨.none, none, (.fields #[]), #[]⟩
noncomputable def o243 (P : Params) : Obj := ⟨(.type "tuple"), none, (.seq #[(.str s301 508), (.str ⟨#[97, 116]⟩ 509), (.str s299 510)] 0), #[]⟩
noncomputable def o244 (P : Params) : Obj := ⟨(.type "tuple"), none, (.seq #[] 0), #[]⟩
noncomputable def o245 (P : Params) : Obj := ⟨.none, none, (.func (mkF s206 s206 (st 41) 0 .none .none .none .none .none .none 0)), #[]⟩
noncomputable def o246 (P : Params) : Obj := ⟨(.type "code"), none, (.fields #[(.str s206 505), (.str s206 506), (.str s167 507), (.int 201 0), (.int 3 0), (.int 0 0), (.int 0 0), (.int 3 0), (.ref 241), (.bool true), (.int 181 0), (.ref 242), .none, (.ref 243), (.ref 244), (.ref 245), (.int 511 0), (.int 201 0), (.str s167 512)]), #[]⟩
noncomputable def F247 : FuncData := mkF s206 s206 (st 41) 3 .none .none .none (.str s298 368) (.ref 246) .none 0
noncomputable def o247 (P : Params) : Obj := ⟨.type "function", none, .func F247, #[]⟩
noncomputable def o248 (P : Params) : Obj := ⟨(.type "tuple"), none, (.seq #[] 0), #[]⟩
noncomputable def o249 (P : Params) : Obj := ⟨.none, none, (.fields #[]), #[]⟩
noncomputable def o250 (P : Params) : Obj := ⟨(.type "tuple"), none, (.seq #[(.str s301 517), (.str s317 518), (.str s314 519)] 0), #[]⟩
noncomputable def o251 (P : Params) : Obj := ⟨(.type "tuple"), none, (.seq #[] 0), #[]⟩
noncomputable def o252 (P : Params) : Obj := ⟨.none, none, (.func (mkF s207 s207 (st 42) 0 .none .none .none .none .none .none 0)), #[]⟩
noncomputable def o253 (P : Params) : Obj := ⟨(.type "code"), none, (.fields #[(.str s207 514), (.str s207 515), (.str s167 516), (.int 205 0), (.int 1 0), (.int 0 0), (.int 0 0), (.int 3 0), (.ref 248), (.bool true), (.int 181 0), (.ref 249), .none, (.ref 250), (.ref 251), (.ref 252), (.int 520 0), (.int 205 0), (.str s167 521)]), #[]⟩
noncomputable def F254 : FuncData := mkF s207 s207 (st 42) 3 .none .none .none (.str s298 368) (.ref 253) .none 0
noncomputable def o254 (P : Params) : Obj := ⟨.type "function", none, .func F254, #[]⟩
noncomputable def o255 (P : Params) : Obj := ⟨(.type "tuple"), none, (.seq #[] 0), #[]⟩
noncomputable def o256 (P : Params) : Obj := ⟨.none, none, (.fields #[]), #[]⟩
noncomputable def o257 (P : Params) : Obj := ⟨(.type "tuple"), none, (.seq #[(.str s288 526), (.str s313 527), (.str s295 528)] 0), #[]⟩
noncomputable def o258 (P : Params) : Obj := ⟨(.type "tuple"), none, (.seq #[] 0), #[]⟩
noncomputable def o259 (P : Params) : Obj := ⟨.none, none, (.func (mkF s208 s208 (st 43) 0 .none .none .none .none .none .none 0)), #[]⟩
noncomputable def o260 (P : Params) : Obj := ⟨(.type "code"), none, (.fields #[(.str s208 523), (.str s208 524), (.str s167 525), (.int 215 0), (.int 3 0), (.int 0 0), (.int 0 0), (.int 3 0), (.ref 255), (.bool true), (.int 181 0), (.ref 256), .none, (.ref 257), (.ref 258), (.ref 259), (.int 529 0), (.int 215 0), (.str s167 530)]), #[]⟩
noncomputable def F261 : FuncData := mkF s208 s208 (st 43) 3 .none .none .none (.str s298 368) (.ref 260) .none 0
noncomputable def o261 (P : Params) : Obj := ⟨.type "function", none, .func F261, #[]⟩
noncomputable def o262 (P : Params) : Obj := ⟨(.type "tuple"), none, (.seq #[] 0), #[]⟩
noncomputable def o263 (P : Params) : Obj := ⟨.none, none, (.fields #[]), #[]⟩
noncomputable def o264 (P : Params) : Obj := ⟨(.type "tuple"), none, (.seq #[(.str s301 535), (.str s313 536), (.str s299 537), (.str ⟨#[109, 97, 114, 107]⟩ 538), (.str ⟨#[115, 99, 97, 108, 101]⟩ 539), (.str s302 540), (.str s320 541), (.str ⟨#[98, 101, 104, 105, 110, 100]⟩ 542), (.str s317 543), (.str s295 544), (.str s322 545), (.str s288 546), (.str s292 547)] 0), #[]⟩
noncomputable def o265 (P : Params) : Obj := ⟨(.type "tuple"), none, (.seq #[] 0), #[]⟩
noncomputable def o266 (P : Params) : Obj := ⟨.none, none, (.func (mkF s209 s209 (st 44) 0 .none .none .none .none .none .none 0)), #[]⟩
noncomputable def o267 (P : Params) : Obj := ⟨(.type "code"), none, (.fields #[(.str s209 532), (.str s209 533), (.str s167 534), (.int 225 0), (.int 1 0), (.int 0 0), (.int 0 0), (.int 3 0), (.ref 262), (.bool true), (.int 181 0), (.ref 263), .none, (.ref 264), (.ref 265), (.ref 266), (.int 548 0), (.int 225 0), (.str s167 549)]), #[]⟩
noncomputable def F268 : FuncData := mkF s209 s209 (st 44) 3 .none .none .none (.str s298 368) (.ref 267) .none 0
noncomputable def o268 (P : Params) : Obj := ⟨.type "function", none, .func F268, #[]⟩
noncomputable def o269 (P : Params) : Obj := ⟨(.type "tuple"), none, (.seq #[] 0), #[]⟩
noncomputable def o270 (P : Params) : Obj := ⟨.none, none, (.fields #[]), #[]⟩
noncomputable def o271 (P : Params) : Obj := ⟨(.type "tuple"), none, (.seq #[(.str s301 554), (.str ⟨#[98, 111, 100, 121]⟩ 555), (.str ⟨#[110, 101, 103, 97, 116, 105, 118, 101]⟩ 556), (.str ⟨#[115, 109, 97, 108, 108]⟩ 557), (.str s292 558), (.str s322 559)] 0), #[]⟩
noncomputable def o272 (P : Params) : Obj := ⟨(.type "tuple"), none, (.seq #[] 0), #[]⟩
noncomputable def o273 (P : Params) : Obj := ⟨.none, none, (.func (mkF s210 s210 (st 45) 0 .none .none .none .none .none .none 0)), #[]⟩
noncomputable def o274 (P : Params) : Obj := ⟨(.type "code"), none, (.fields #[(.str s210 551), (.str s210 552), (.str s167 553), (.int 259 0), (.int 1 0), (.int 0 0), (.int 0 0), (.int 3 0), (.ref 269), (.bool true), (.int 181 0), (.ref 270), .none, (.ref 271), (.ref 272), (.ref 273), (.int 560 0), (.int 259 0), (.str s167 561)]), #[]⟩
noncomputable def F275 : FuncData := mkF s210 s210 (st 45) 3 .none .none .none (.str s298 368) (.ref 274) .none 0
noncomputable def o275 (P : Params) : Obj := ⟨.type "function", none, .func F275, #[]⟩
noncomputable def o276 (P : Params) : Obj := ⟨(.type "tuple"), none, (.seq #[] 0), #[]⟩
noncomputable def o277 (P : Params) : Obj := ⟨(.type "builtin_function_or_method"), none, (.fields #[(.builtin "type.__prepare__"), (.type "type")]), #[]⟩
noncomputable def o278 (P : Params) : Obj := ⟨(.type "dict"), none, (.dict #[en P s275 574 (.str s326 563), en P s277 576 (.str s212 575), en P s278 578 (.int 278 577), en P s281 585 (.ref 289), en P s279 588 (.ref 290)] 5), #[]⟩
noncomputable def o279 (P : Params) : Obj := ⟨(.type "tuple"), none, (.seq #[] 0), #[]⟩
noncomputable def o280 (P : Params) : Obj := ⟨.none, none, (.fields #[(.int 280 0), (.int 4 0), (.ref 288)]), #[]⟩
noncomputable def o281 (P : Params) : Obj := ⟨(.type "code"), none, (.fields #[(.str s212 569), (.str s212 570), (.str s167 571), (.int 278 0), (.int 0 0), (.int 0 0), (.int 0 0), (.int 0 0), (.ref 279), (.bool false), (.int 181 0), (.ref 280), .none, .none, .none, .none, (.int 572 0), (.int 278 0), (.str s167 573)]), #[]⟩
noncomputable def o282 (P : Params) : Obj := ⟨(.type "frame"), none, .plain, #[some (.ref 281), some (.ref 3), some (.ref 278), none, some (.str s326 563), none, some (.ref 0)]⟩
noncomputable def o283 (P : Params) : Obj := ⟨(.type "tuple"), none, (.seq #[] 0), #[]⟩
noncomputable def o284 (P : Params) : Obj := ⟨.none, none, (.fields #[]), #[]⟩
noncomputable def o285 (P : Params) : Obj := ⟨(.type "tuple"), none, (.seq #[(.str s282 582)] 0), #[]⟩
noncomputable def o286 (P : Params) : Obj := ⟨(.type "tuple"), none, (.seq #[] 0), #[]⟩
noncomputable def o287 (P : Params) : Obj := ⟨.none, none, (.func (mkF s281 s327 (sc 48 0) 0 .none .none .none .none .none .none 0)), #[]⟩
noncomputable def o288 (P : Params) : Obj := ⟨(.type "code"), none, (.fields #[(.str s281 579), (.str s327 580), (.str s167 581), (.int 280 0), (.int 1 0), (.int 0 0), (.int 0 0), (.int 3 0), (.ref 283), (.bool true), (.int 181 0), (.ref 284), .none, (.ref 285), (.ref 286), (.ref 287), (.int 583 0), (.int 280 0), (.str s167 584)]), #[]⟩
noncomputable def F289 : FuncData := mkF s281 s327 (sc 48 0) 3 .none .none .none (.str s326 563) (.ref 288) .none 0
noncomputable def o289 (P : Params) : Obj := ⟨.type "function", none, .func F289, #[]⟩
noncomputable def o290 (P : Params) : Obj := ⟨(.type "tuple"), none, (.seq #[(.str s328 586), (.str s329 587)] 0), #[]⟩
noncomputable def o291 (P : Params) : Obj := ⟨(.type "dict"), none, (.dict #[en P s275 574 (.str s326 563), en P s278 578 (.int 278 577), en P s281 585 (.ref 289), en P s279 588 (.ref 290), en P s330 590 (.ref 293), en P s280 592 (.ref 294), en P s2 593 .none] 4), #[]⟩
noncomputable def o292 (P : Params) : Obj := ⟨(.type "type"), none, (.cls (mkC s212 [(.type "object")] [(.ref 292), (.type "object")] 291 s212 true [] [] false none false)), #[none, none, some (.str s212 567), some (.str s212 575), some (.builtin "object.__new__"), some (.bool true)]⟩
noncomputable def o293 (P : Params) : Obj := ⟨(.type "getset_descriptor"), none, (.fields #[(.str s330 589), (.ref 292), (.builtin "function.__dict__"), (.builtin "function.__dict__#set")]), #[]⟩
noncomputable def o294 (P : Params) : Obj := ⟨(.type "getset_descriptor"), none, (.fields #[(.str s280 591), (.ref 292), (.builtin "ExceptionGroup.__weakref__"), .none]), #[]⟩
noncomputable def o295 (P : Params) : Obj := ⟨(.type "super"), none, (.fields #[(.ref 292), (.ref 292), (.ref 292)]), #[]⟩
noncomputable def o296 (P : Params) : Obj := ⟨(.type "builtin_function_or_method"), none, (.fields #[(.builtin "object.__init_subclass__"), (.ref 292)]), #[]⟩
noncomputable def o297 (P : Params) : Obj := ⟨(.type "tuple"), none, (.seq #[] 0), #[]⟩
noncomputable def o298 (P : Params) : Obj := ⟨(.type "builtin_function_or_method"), none, (.fields #[(.builtin "type.__prepare__"), (.type "type")]), #[]⟩
noncomputable def o299 (P : Params) : Obj := ⟨(.type "dict"), none, (.dict #[en P s275 603 (.str s326 563), en P s277 605 (.str s213 604), en P s278 607 (.int 283 606), en P s281 617 (.ref 311), en P s331 624 (.ref 318), en P s279 630 (.ref 319)] 6), #[]⟩
noncomputable def o300 (P : Params) : Obj := ⟨(.type "tuple"), none, (.seq #[] 0), #[]⟩
noncomputable def o301 (P : Params) : Obj := ⟨.none, none, (.fields #[(.int 285 0), (.int 4 0), (.ref 310), (.int 292 0), (.int 4 0), (.ref 317)]), #[]⟩
noncomputable def o302 (P : Params) : Obj := ⟨(.type "code"), none, (.fields #[(.str s213 598), (.str s213 599), (.str s167 600), (.int 283 0), (.int 0 0), (.int 0 0), (.int 0 0), (.int 0 0), (.ref 300), (.bool false), (.int 181 0), (.ref 301), .none, .none, .none, .none, (.int 601 0), (.int 283 0), (.str s167 602)]), #[]⟩
noncomputable def o303 (P : Params) : Obj := ⟨(.type "frame"), none, .plain, #[some (.ref 302), some (.ref 3), some (.ref 299), none, some (.str s326 563), none, some (.ref 0)]⟩
noncomputable def o304 (P : Params) : Obj := ⟨(.type "tuple"), none, (.seq #[.none] 0), #[]⟩
noncomputable def o305 (P : Params) : Obj := ⟨(.type "tuple"), none, (.seq #[] 0), #[]⟩
noncomputable def o306 (P : Params) : Obj := ⟨.none, none, (.fields #[]), #[]⟩
noncomputable def o307 (P : Params) : Obj := ⟨(.type "tuple"), none, (.seq #[(.str s282 611), (.str s329 612), (.str s332 613), (.str s328 614)] 0), #[]⟩
noncomputable def o308 (P : Params) : Obj := ⟨(.type "tuple"), none, (.seq #[] 0), #[]⟩
noncomputable def o309 (P : Params) : Obj := ⟨.none, none, (.func (mkF s281 s333 (sc 49 0) 0 .none .none .none .none .none .none 0)), #[]⟩
noncomputable def o310 (P : Params) : Obj := ⟨(.type "code"), none, (.fields #[(.str s281 608), (.str s333 609), (.str s167 610), (.int 285 0), (.int 4 0), (.int 0 0), (.int 0 0), (.int 3 0), (.ref 305), (.bool true), (.int 181 0), (.ref 306), .none, (.ref 307), (.ref 308), (.ref 309), (.int 615 0), (.int 285 0), (.str s167 616)]), #[]⟩
noncomputable def F311 : FuncData := mkF s281 s333 (sc 49 0) 3 (.ref 304) .none .none (.str s326 563) (.ref 310) .none 0
noncomputable def o311 (P : Params) : Obj := ⟨.type "function", none, .func F311, #[]⟩
noncomputable def o312 (P : Params) : Obj := ⟨(.type "tuple"), none, (.seq #[] 0), #[]⟩
noncomputable def o313 (P : Params) : Obj := ⟨.none, none, (.fields #[]), #[]⟩
noncomputable def o314 (P : Params) : Obj := ⟨(.type "tuple"), none, (.seq #[(.str s282 621)] 0), #[]⟩
noncomputable def o315 (P : Params) : Obj := ⟨(.type "tuple"), none, (.seq #[] 0), #[]⟩
noncomputable def o316 (P : Params) : Obj := ⟨.none, none, (.func (mkF s331 s334 (sc 49 1) 0 .none .none .none .none .none .none 0)), #[]⟩
noncomputable def o317 (P : Params) : Obj := ⟨(.type "code"), none, (.fields #[(.str s331 618), (.str s334 619), (.str s167 620), (.int 292 0), (.int 1 0), (.int 0 0), (.int 0 0), (.int 3 0), (.ref 312), (.bool true), (.int 181 0), (.ref 313), .none, (.ref 314), (.ref 315), (.ref 316), (.int 622 0), (.int 292 0), (.str s167 623)]), #[]⟩
noncomputable def F318 : FuncData := mkF s331 s334 (sc 49 1) 3 .none .none .none (.str s326 563) (.ref 317) .none 0
noncomputable def o318 (P : Params) : Obj := ⟨.type "function", none, .func F318, #[]⟩
noncomputable def o319 (P : Params) : Obj := ⟨(.type "tuple"), none, (.seq #[(.str s328 625), (.str s332 626), (.str s329 627), (.str ⟨#[108, 111, 111, 115, 101]⟩ 628), (.str ⟨#[115, 104, 97, 114, 101, 100]⟩ 629)] 0), #[]⟩
noncomputable def o320 (P : Params) : Obj := ⟨(.type "dict"), none, (.dict #[en P s275 603 (.str s326 563), en P s278 607 (.int 283 606), en P s281 617 (.ref 311), en P s331 624 (.ref 318), en P s279 630 (.ref 319), en P s330 632 (.ref 322), en P s280 634 (.ref 323), en P s2 635 .none] 4), #[]⟩
noncomputable def o321 (P : Params) : Obj := ⟨(.type "type"), none, (.cls (mkC s213 [(.type "object")] [(.ref 321), (.type "object")] 320 s213 true [] [] false none false)), #[none, none, some (.str s213 596), some (.str s213 604), some (.builtin "object.__new__"), some (.bool true)]⟩
noncomputable def o322 (P : Params) : Obj := ⟨(.type "getset_descriptor"), none, (.fields #[(.str s330 631), (.ref 321), (.builtin "function.__dict__"), (.builtin "function.__dict__#set")]), #[]⟩
noncomputable def o323 (P : Params) : Obj := ⟨(.type "getset_descriptor"), none, (.fields #[(.str s280 633), (.ref 321), (.builtin "ExceptionGroup.__weakref__"), .none]), #[]⟩
noncomputable def o324 (P : Params) : Obj := ⟨(.type "super"), none, (.fields #[(.ref 321), (.ref 321), (.ref 321)]), #[]⟩
noncomputable def o325 (P : Params) : Obj := ⟨(.type "builtin_function_or_method"), none, (.fields #[(.builtin "object.__init_subclass__"), (.ref 321)]), #[]⟩
noncomputable def o326 (P : Params) : Obj := ⟨(.type "tuple"), none, (.seq #[] 0), #[]⟩
noncomputable def o327 (P : Params) : Obj := ⟨(.type "builtin_function_or_method"), none, (.fields #[(.builtin "type.__prepare__"), (.type "type")]), #[]⟩
noncomputable def o328 (P : Params) : Obj := ⟨(.type "dict"), none, (.dict #[en P s275 645 (.str s326 563), en P s277 647 (.str s214 646), en P s278 649 (.int 294 648), en P s281 657 (.ref 339), en P s279 661 (.ref 340)] 5), #[]⟩
noncomputable def o329 (P : Params) : Obj := ⟨(.type "tuple"), none, (.seq #[] 0), #[]⟩
noncomputable def o330 (P : Params) : Obj := ⟨.none, none, (.fields #[(.int 296 0), (.int 4 0), (.ref 338)]), #[]⟩
noncomputable def o331 (P : Params) : Obj := ⟨(.type "code"), none, (.fields #[(.str s214 640), (.str s214 641), (.str s167 642), (.int 294 0), (.int 0 0), (.int 0 0), (.int 0 0), (.int 0 0), (.ref 329), (.bool false), (.int 181 0), (.ref 330), .none, .none, .none, .none, (.int 643 0), (.int 294 0), (.str s167 644)]), #[]⟩
noncomputable def o332 (P : Params) : Obj := ⟨(.type "frame"), none, .plain, #[some (.ref 331), some (.ref 3), some (.ref 328), none, some (.str s326 563), none, some (.ref 0)]⟩
noncomputable def o333 (P : Params) : Obj := ⟨(.type "tuple"), none, (.seq #[] 0), #[]⟩
noncomputable def o334 (P : Params) : Obj := ⟨.none, none, (.fields #[]), #[]⟩
noncomputable def o335 (P : Params) : Obj := ⟨(.type "tuple"), none, (.seq #[(.str s282 653), (.str s272 654)] 0), #[]⟩
noncomputable def o336 (P : Params) : Obj := ⟨(.type "tuple"), none, (.seq #[] 0), #[]⟩
noncomputable def o337 (P : Params) : Obj := ⟨.none, none, (.func (mkF s281 s337 (sc 50 0) 0 .none .none .none .none .none .none 0)), #[]⟩
noncomputable def o338 (P : Params) : Obj := ⟨(.type "code"), none, (.fields #[(.str s281 650), (.str s337 651), (.str s167 652), (.int 296 0), (.int 2 0), (.int 0 0), (.int 0 0), (.int 3 0), (.ref 333), (.bool true), (.int 181 0), (.ref 334), .none, (.ref 335), (.ref 336), (.ref 337), (.int 655 0), (.int 296 0), (.str s167 656)]), #[]⟩
noncomputable def F339 : FuncData := mkF s281 s337 (sc 50 0) 3 .none .none .none (.str s326 563) (.ref 338) .none 0
noncomputable def o339 (P : Params) : Obj := ⟨.type "function", none, .func F339, #[]⟩
noncomputable def o340 (P : Params) : Obj := ⟨(.type "tuple"), none, (.seq #[(.str s328 658), (.str s329 659), (.str s272 660)] 0), #[]⟩
noncomputable def o341 (P : Params) : Obj := ⟨(.type "dict"), none, (.dict #[en P s275 645 (.str s326 563), en P s278 649 (.int 294 648), en P s281 657 (.ref 339), en P s279 661 (.ref 340), en P s330 663 (.ref 343), en P s280 665 (.ref 344), en P s2 666 .none] 4), #[]⟩
noncomputable def o342 (P : Params) : Obj := ⟨(.type "type"), none, (.cls (mkC s214 [(.type "object")] [(.ref 342), (.type "object")] 341 s214 true [] [] false none false)), #[none, none, some (.str s214 638), some (.str s214 646), some (.builtin "object.__new__"), some (.bool true)]⟩
noncomputable def o343 (P : Params) : Obj := ⟨(.type "getset_descriptor"), none, (.fields #[(.str s330 662), (.ref 342), (.builtin "function.__dict__"), (.builtin "function.__dict__#set")]), #[]⟩
noncomputable def o344 (P : Params) : Obj := ⟨(.type "getset_descriptor"), none, (.fields #[(.str s280 664), (.ref 342), (.builtin "ExceptionGroup.__weakref__"), .none]), #[]⟩
noncomputable def o345 (P : Params) : Obj := ⟨(.type "super"), none, (.fields #[(.ref 342), (.ref 342), (.ref 342)]), #[]⟩
noncomputable def o346 (P : Params) : Obj := ⟨(.type "builtin_function_or_method"), none, (.fields #[(.builtin "object.__init_subclass__"), (.ref 342)]), #[]⟩
noncomputable def o347 (P : Params) : Obj := ⟨(.type "tuple"), none, (.seq #[] 0), #[]⟩
noncomputable def o348 (P : Params) : Obj := ⟨.none, none, (.fields #[]), #[]⟩
noncomputable def o349 (P : Params) : Obj := ⟨(.type "tuple"), none, (.seq #[(.str s288 672)] 0), #[]⟩
noncomputable def o350 (P : Params) : Obj := ⟨(.type "tuple"), none, (.seq #[] 0), #[]⟩
noncomputable def o351 (P : Params) : Obj := ⟨.none, none, (.func (mkF s215 s215 (st 51) 0 .none .none .none .none .none .none 0)), #[]⟩
noncomputable def o352 (P : Params) : Obj := ⟨(.type "code"), none, (.fields #[(.str s215 669), (.str s215 670), (.str s167 671), (.int 300 0), (.int 1 0), (.int 0 0), (.int 0 0), (.int 3 0), (.ref 347), (.bool true), (.int 181 0), (.ref 348), .none, (.ref 349), (.ref 350), (.ref 351), (.int 673 0), (.int 300 0), (.str s167 674)]), #[]⟩
noncomputable def F353 : FuncData := mkF s215 s215 (st 51) 3 .none .none .none (.str s326 563) (.ref 352) .none 0
noncomputable def o353 (P : Params) : Obj := ⟨.type "function", none, .func F353, #[]⟩
noncomputable def o354 (P : Params) : Obj := ⟨(.type "tuple"), none, (.seq #[] 0), #[]⟩
noncomputable def o355 (P : Params) : Obj := ⟨.none, none, (.fields #[]), #[]⟩
noncomputable def o356 (P : Params) : Obj := ⟨(.type "tuple"), none, (.seq #[] 0), #[]⟩
noncomputable def o357 (P : Params) : Obj := ⟨(.type "tuple"), none, (.seq #[] 0), #[]⟩
noncomputable def o358 (P : Params) : Obj := ⟨.none, none, (.func (mkF s216 s216 (st 52) 0 .none .none .none .none .none .none 0)), #[]⟩
noncomputable def o359 (P : Params) : Obj := ⟨(.type "code"), none, (.fields #[(.str s216 676), (.str s216 677), (.str s167 678), (.int 304 0), (.int 0 0), (.int 0 0), (.int 0 0), (.int 3 0), (.ref 354), (.bool true), (.int 181 0), (.ref 355), .none, (.ref 356), (.ref 357), (.ref 358), (.int 679 0), (.int 304 0), (.str s167 680)]), #[]⟩
noncomputable def F360 : FuncData := mkF s216 s216 (st 52) 3 .none .none .none (.str s326 563) (.ref 359) .none 0
noncomputable def o360 (P : Params) : Obj := ⟨.type "function", none, .func F360, #[]⟩
noncomputable def o361 (P : Params) : Obj := ⟨(.type "tuple"), none, (.seq #[] 0), #[]⟩
noncomputable def o362 (P : Params) : Obj := ⟨.none, none, (.fields #[]), #[]⟩
noncomputable def o363 (P : Params) : Obj := ⟨(.type "tuple"), none, (.seq #[(.str s332 685)] 0), #[]⟩
noncomputable def o364 (P : Params) : Obj := ⟨(.type "tuple"), none, (.seq #[] 0), #[]⟩
noncomputable def o365 (P : Params) : Obj := ⟨.none, none, (.func (mkF s217 s217 (st 53) 0 .none .none .none .none .none .none 0)), #[]⟩
noncomputable def o366 (P : Params) : Obj := ⟨(.type "code"), none, (.fields #[(.str s217 682), (.str s217 683), (.str s167 684), (.int 306 0), (.int 1 0), (.int 0 0), (.int 0 0), (.int 3 0), (.ref 361), (.bool true), (.int 181 0), (.ref 362), .none, (.ref 363), (.ref 364), (.ref 365), (.int 686 0), (.int 306 0), (.str s167 687)]), #[]⟩
noncomputable def F367 : FuncData := mkF s217 s217 (st 53) 3 .none .none .none (.str s326 563) (.ref 366) .none 0
noncomputable def o367 (P : Params) : Obj := ⟨.type "function", none, .func F367, #[]⟩
noncomputable def o368 (P : Params) : Obj := ⟨(.type "tuple"), none, (.seq #[] 0), #[]⟩
noncomputable def o369 (P : Params) : Obj := ⟨.none, none, (.fields #[]), #[]⟩
noncomputable def o370 (P : Params) : Obj := ⟨(.type "tuple"), none, (.seq #[(.str s271 692), (.str s338 693)] 0), #[]⟩
noncomputable def o371 (P : Params) : Obj := ⟨(.type "tuple"), none, (.seq #[] 0), #[]⟩
noncomputable def o372 (P : Params) : Obj := ⟨.none, none, (.func (mkF s218 s218 (st 54) 0 .none .none .none .none .none .none 0)), #[]⟩
noncomputable def o373 (P : Params) : Obj := ⟨(.type "code"), none, (.fields #[(.str s218 689), (.str s218 690), (.str s167 691), (.int 308 0), (.int 2 0), (.int 0 0), (.int 0 0), (.int 3 0), (.ref 368), (.bool true), (.int 181 0), (.ref 369), .none, (.ref 370), (.ref 371), (.ref 372), (.int 694 0), (.int 308 0), (.str s167 695)]), #[]⟩
noncomputable def F374 : FuncData := mkF s218 s218 (st 54) 3 .none .none .none (.str s326 563) (.ref 373) .none 0
noncomputable def o374 (P : Params) : Obj := ⟨.type "function", none, .func F374, #[]⟩
noncomputable def o375 (P : Params) : Obj := ⟨(.type "tuple"), none, (.seq #[] 0), #[]⟩
noncomputable def o376 (P : Params) : Obj := ⟨.none, none, (.fields #[]), #[]⟩
noncomputable def o377 (P : Params) : Obj := ⟨(.type "tuple"), none, (.seq #[(.str s271 700), (.str s329 701)] 0), #[]⟩
noncomputable def o378 (P : Params) : Obj := ⟨(.type "tuple"), none, (.seq #[] 0), #[]⟩
noncomputable def o379 (P : Params) : Obj := ⟨.none, none, (.func (mkF s219 s219 (st 55) 0 .none .none .none .none .none .none 0)), #[]⟩
noncomputable def o380 (P : Params) : Obj := ⟨(.type "code"), none, (.fields #[(.str s219 697), (.str s219 698), (.str s167 699), (.int 312 0), (.int 1 0), (.int 0 0), (.int 0 0), (.int 3 0), (.ref 375), (.bool true), (.int 181 0), (.ref 376), .none, (.ref 377), (.ref 378), (.ref 379), (.int 702 0), (.int 312 0), (.str s167 703)]), #[]⟩
noncomputable def F381 : FuncData := mkF s219 s219 (st 55) 3 .none .none .none (.str s326 563) (.ref 380) .none 0
noncomputable def o381 (P : Params) : Obj := ⟨.type "function", none, .func F381, #[]⟩
noncomputable def o382 (P : Params) : Obj := ⟨(.type "tuple"), none, (.seq #[] 0), #[]⟩
noncomputable def o383 (P : Params) : Obj := ⟨.none, none, (.fields #[]), #[]⟩
noncomputable def o384 (P : Params) : Obj := ⟨(.type "tuple"), none, (.seq #[(.str s271 708)] 0), #[]⟩
noncomputable def o385 (P : Params) : Obj := ⟨(.type "tuple"), none, (.seq #[] 0), #[]⟩
noncomputable def o386 (P : Params) : Obj := ⟨.none, none, (.func (mkF s220 s220 (st 56) 0 .none .none .none .none .none .none 0)), #[]⟩
noncomputable def o387 (P : Params) : Obj := ⟨(.type "code"), none, (.fields #[(.str s220 705), (.str s220 706), (.str s167 707), (.int 323 0), (.int 1 0), (.int 0 0), (.int 0 0), (.int 3 0), (.ref 382), (.bool true), (.int 181 0), (.ref 383), .none, (.ref 384), (.ref 385), (.ref 386), (.int 709 0), (.int 323 0), (.str s167 710)]), #[]⟩
noncomputable def F388 : FuncData := mkF s220 s220 (st 56) 3 .none .none .none (.str s326 563) (.ref 387) .none 0
noncomputable def o388 (P : Params) : Obj := ⟨.type "function", none, .func F388, #[]⟩
noncomputable def o389 (P : Params) : Obj := ⟨(.type "tuple"), none, (.seq #[] 0), #[]⟩
noncomputable def o390 (P : Params) : Obj := ⟨.none, none, (.fields #[]), #[]⟩
noncomputable def o391 (P : Params) : Obj := ⟨(.type "tuple"), none, (.seq #[(.str s271 715)] 0), #[]⟩
noncomputable def o392 (P : Params) : Obj := ⟨(.type "tuple"), none, (.seq #[] 0), #[]⟩
noncomputable def o393 (P : Params) : Obj := ⟨.none, none, (.func (mkF s221 s221 (st 57) 0 .none .none .none .none .none .none 0)), #[]⟩
noncomputable def o394 (P : Params) : Obj := ⟨(.type "code"), none, (.fields #[(.str s221 712), (.str s221 713), (.str s167 714), (.int 325 0), (.int 1 0), (.int 0 0), (.int 0 0), (.int 3 0), (.ref 389), (.bool true), (.int 181 0), (.ref 390), .none, (.ref 391), (.ref 392), (.ref 393), (.int 716 0), (.int 325 0), (.str s167 717)]), #[]⟩
noncomputable def F395 : FuncData := mkF s221 s221 (st 57) 3 .none .none .none (.str s326 563) (.ref 394) .none 0
noncomputable def o395 (P : Params) : Obj := ⟨.type "function", none, .func F395, #[]⟩
noncomputable def o396 (P : Params) : Obj := ⟨(.type "tuple"), none, (.seq #[] 0), #[]⟩
noncomputable def o397 (P : Params) : Obj := ⟨.none, none, (.fields #[]), #[]⟩
noncomputable def o398 (P : Params) : Obj := ⟨(.type "tuple"), none, (.seq #[(.str s271 722)] 0), #[]⟩
noncomputable def o399 (P : Params) : Obj := ⟨(.type "tuple"), none, (.seq #[] 0), #[]⟩
noncomputable def o400 (P : Params) : Obj := ⟨.none, none, (.func (mkF s222 s222 (st 58) 0 .none .none .none .none .none .none 0)), #[]⟩
noncomputable def o401 (P : Params) : Obj := ⟨(.type "code"), none, (.fields #[(.str s222 719), (.str s222 720), (.str s167 721), (.int 327 0), (.int 1 0), (.int 0 0), (.int 0 0), (.int 3 0), (.ref 396), (.bool true), (.int 181 0), (.ref 397), .none, (.ref 398), (.ref 399), (.ref 400), (.int 723 0), (.int 327 0), (.str s167 724)]), #[]⟩
noncomputable def F402 : FuncData := mkF s222 s222 (st 58) 3 .none .none .none (.str s326 563) (.ref 401) .none 0
noncomputable def o402 (P : Params) : Obj := ⟨.type "function", none, .func F402, #[]⟩
noncomputable def o403 (P : Params) : Obj := ⟨(.type "tuple"), none, (.seq #[] 0), #[]⟩
noncomputable def o404 (P : Params) : Obj := ⟨.none, none, (.fields #[]), #[]⟩
noncomputable def o405 (P : Params) : Obj := ⟨(.type "tuple"), none, (.seq #[(.str s329 733), (.str s339 734)] 0), #[]⟩
noncomputable def o406 (P : Params) : Obj := ⟨(.type "tuple"), none, (.seq #[] 0), #[]⟩
noncomputable def o407 (P : Params) : Obj := ⟨.none, none, (.func (mkF s224 s224 (st 61) 0 .none .none .none .none .none .none 0)), #[]⟩
noncomputable def o408 (P : Params) : Obj := ⟨(.type "code"), none, (.fields #[(.str s224 730), (.str s224 731), (.str s167 732), (.int 333 0), (.int 1 0), (.int 0 0), (.int 0 0), (.int 3 0), (.ref 403), (.bool true), (.int 181 0), (.ref 404), .none, (.ref 405), (.ref 406), (.ref 407), (.int 735 0), (.int 333 0), (.str s167 736)]), #[]⟩
noncomputable def F409 : FuncData := mkF s224 s224 (st 61) 3 .none .none .none (.str s340 726) (.ref 408) .none 0
noncomputable def o409 (P : Params) : Obj := ⟨.type "function", none, .func F409, #[]⟩
noncomputable def o410 (P : Params) : Obj := ⟨(.type "tuple"), none, (.seq #[] 0), #[]⟩
noncomputable def o411 (P : Params) : Obj := ⟨.none, none, (.fields #[]), #[]⟩
noncomputable def o412 (P : Params) : Obj := ⟨(.type "tuple"), none, (.seq #[(.str s339 741), (.str s338 742), (.str ⟨#[109, 111, 115, 116]⟩ 743), (.str s329 744)] 0), #[]⟩
noncomputable def o413 (P : Params) : Obj := ⟨(.type "tuple"), none, (.seq #[] 0), #[]⟩
noncomputable def o414 (P : Params) : Obj := ⟨.none, none, (.func (mkF s225 s225 (st 62) 0 .none .none .none .none .none .none 0)), #[]⟩
noncomputable def o415 (P : Params) : Obj := ⟨(.type "code"), none, (.fields #[(.str s225 738), (.str s225 739), (.str s167 740), (.int 338 0), (.int 1 0), (.int 0 0), (.int 0 0), (.int 3 0), (.ref 410), (.bool true), (.int 181 0), (.ref 411), .none, (.ref 412), (.ref 413), (.ref 414), (.int 745 0), (.int 338 0), (.str s167 746)]), #[]⟩
noncomputable def F416 : FuncData := mkF s225 s225 (st 62) 3 .none .none .none (.str s340 726) (.ref 415) .none 0
noncomputable def o416 (P : Params) : Obj := ⟨.type "function", none, .func F416, #[]⟩
noncomputable def o417 (P : Params) : Obj := ⟨(.type "tuple"), none, (.seq #[] 0), #[]⟩
noncomputable def o418 (P : Params) : Obj := ⟨.none, none, (.fields #[]), #[]⟩
noncomputable def o419 (P : Params) : Obj := ⟨(.type "tuple"), none, (.seq #[(.str s342 751), (.str s283 752)] 0), #[]⟩
noncomputable def o420 (P : Params) : Obj := ⟨(.type "tuple"), none, (.seq #[] 0), #[]⟩
noncomputable def o421 (P : Params) : Obj := ⟨.none, none, (.func (mkF s226 s226 (st 63) 0 .none .none .none .none .none .none 0)), #[]⟩
noncomputable def o422 (P : Params) : Obj := ⟨(.type "code"), none, (.fields #[(.str s226 748), (.str s226 749), (.str s167 750), (.int 344 0), (.int 2 0), (.int 0 0), (.int 0 0), (.int 3 0), (.ref 417), (.bool true), (.int 181 0), (.ref 418), .none, (.ref 419), (.ref 420), (.ref 421), (.int 753 0), (.int 344 0), (.str s167 754)]), #[]⟩
noncomputable def F423 : FuncData := mkF s226 s226 (st 63) 3 .none .none .none (.str s340 726) (.ref 422) .none 0
noncomputable def o423 (P : Params) : Obj := ⟨.type "function", none, .func F423, #[]⟩
noncomputable def o424 (P : Params) : Obj := ⟨(.type "tuple"), none, (.seq #[] 0), #[]⟩
noncomputable def o425 (P : Params) : Obj := ⟨.none, none, (.fields #[]), #[]⟩
noncomputable def o426 (P : Params) : Obj := ⟨(.type "tuple"), none, (.seq #[(.str s343 759)] 0), #[]⟩
noncomputable def o427 (P : Params) : Obj := ⟨(.type "tuple"), none, (.seq #[] 0), #[]⟩
noncomputable def o428 (P : Params) : Obj := ⟨.none, none, (.func (mkF s227 s227 (st 64) 0 .none .none .none .none .none .none 0)), #[]⟩
noncomputable def o429 (P : Params) : Obj := ⟨(.type "code"), none, (.fields #[(.str s227 756), (.str s227 757), (.str s167 758), (.int 347 0), (.int 1 0), (.int 0 0), (.int 0 0), (.int 3 0), (.ref 424), (.bool true), (.int 181 0), (.ref 425), .none, (.ref 426), (.ref 427), (.ref 428), (.int 760 0), (.int 347 0), (.str s167 761)]), #[]⟩
noncomputable def F430 : FuncData := mkF s227 s227 (st 64) 3 .none .none .none (.str s340 726) (.ref 429) .none 0
noncomputable def o430 (P : Params) : Obj := ⟨.type "function", none, .func F430, #[]⟩
noncomputable def o431 (P : Params) : Obj := ⟨(.type "tuple"), none, (.seq #[] 0), #[]⟩
noncomputable def o432 (P : Params) : Obj := ⟨.none, none, (.fields #[]), #[]⟩
noncomputable def o433 (P : Params) : Obj := ⟨(.type "tuple"), none, (.seq #[(.str s291 766), (.str s342 767), (.str s292 768)] 0), #[]⟩
noncomputable def o434 (P : Params) : Obj := ⟨(.type "tuple"), none, (.seq #[] 0), #[]⟩
noncomputable def o435 (P : Params) : Obj := ⟨.none, none, (.func (mkF s228 s228 (st 65) 0 .none .none .none .none .none .none 0)), #[]⟩
noncomputable def o436 (P : Params) : Obj := ⟨(.type "code"), none, (.fields #[(.str s228 763), (.str s228 764), (.str s167 765), (.int 353 0), (.int 2 0), (.int 0 0), (.int 0 0), (.int 3 0), (.ref 431), (.bool true), (.int 181 0), (.ref 432), .none, (.ref 433), (.ref 434), (.ref 435), (.int 769 0), (.int 353 0), (.str s167 770)]), #[]⟩
noncomputable def F437 : FuncData := mkF s228 s228 (st 65) 3 .none .none .none (.str s340 726) (.ref 436) .none 0
noncomputable def o437 (P : Params) : Obj := ⟨.type "function", none, .func F437, #[]⟩
noncomputable def o438 (P : Params) : Obj := ⟨(.type "tuple"), none, (.seq #[] 0), #[]⟩
noncomputable def o439 (P : Params) : Obj := ⟨.none, none, (.fields #[]), #[]⟩
noncomputable def o440 (P : Params) : Obj := ⟨(.type "tuple"), none, (.seq #[(.str s343 775), (.str s342 776), (.str s322 777), (.str s292 778)] 0), #[]⟩
noncomputable def o441 (P : Params) : Obj := ⟨(.type "tuple"), none, (.seq #[] 0), #[]⟩
noncomputable def o442 (P : Params) : Obj := ⟨.none, none, (.func (mkF s229 s229 (st 66) 0 .none .none .none .none .none .none 0)), #[]⟩
noncomputable def o443 (P : Params) : Obj := ⟨(.type "code"), none, (.fields #[(.str s229 772), (.str s229 773), (.str s167 774), (.int 361 0), (.int 2 0), (.int 0 0), (.int 0 0), (.int 3 0), (.ref 438), (.bool true), (.int 181 0), (.ref 439), .none, (.ref 440), (.ref 441), (.ref 442), (.int 779 0), (.int 361 0), (.str s167 780)]), #[]⟩
noncomputable def F444 : FuncData := mkF s229 s229 (st 66) 3 .none .none .none (.str s340 726) (.ref 443) .none 0
noncomputable def o444 (P : Params) : Obj := ⟨.type "function", none, .func F444, #[]⟩
noncomputable def o445 (P : Params) : Obj := ⟨(.type "tuple"), none, (.seq #[] 0), #[]⟩
noncomputable def o446 (P : Params) : Obj := ⟨.none, none, (.fields #[]), #[]⟩
noncomputable def o447 (P : Params) : Obj := ⟨(.type "tuple"), none, (.seq #[(.str s329 785), (.str s344 786)] 0), #[]⟩
noncomputable def o448 (P : Params) : Obj := ⟨(.type "tuple"), none, (.seq #[] 0), #[]⟩
noncomputable def o449 (P : Params) : Obj := ⟨.none, none, (.func (mkF s230 s230 (st 67) 0 .none .none .none .none .none .none 0)), #[]⟩
noncomputable def o450 (P : Params) : Obj := ⟨(.type "code"), none, (.fields #[(.str s230 782), (.str s230 783), (.str s167 784), (.int 367 0), (.int 2 0), (.int 0 0), (.int 0 0), (.int 3 0), (.ref 445), (.bool true), (.int 181 0), (.ref 446), .none, (.ref 447), (.ref 448), (.ref 449), (.int 787 0), (.int 367 0), (.str s167 788)]), #[]⟩
noncomputable def F451 : FuncData := mkF s230 s230 (st 67) 3 .none .none .none (.str s340 726) (.ref 450) .none 0
noncomputable def o451 (P : Params) : Obj := ⟨.type "function", none, .func F451, #[]⟩
noncomputable def o452 (P : Params) : Obj := ⟨(.type "tuple"), none, (.seq #[] 0), #[]⟩
noncomputable def o453 (P : Params) : Obj := ⟨.none, none, (.fields #[]), #[]⟩
noncomputable def o454 (P : Params) : Obj := ⟨(.type "tuple"), none, (.seq #[(.str s329 793), (.str s344 794), (.str s342 795)] 0), #[]⟩
noncomputable def o455 (P : Params) : Obj := ⟨(.type "tuple"), none, (.seq #[] 0), #[]⟩
noncomputable def o456 (P : Params) : Obj := ⟨.none, none, (.func (mkF s231 s231 (st 68) 0 .none .none .none .none .none .none 0)), #[]⟩
noncomputable def o457 (P : Params) : Obj := ⟨(.type "code"), none, (.fields #[(.str s231 790), (.str s231 791), (.str s167 792), (.int 377 0), (.int 3 0), (.int 0 0), (.int 0 0), (.int 3 0), (.ref 452), (.bool true), (.int 181 0), (.ref 453), .none, (.ref 454), (.ref 455), (.ref 456), (.int 796 0), (.int 377 0), (.str s167 797)]), #[]⟩
noncomputable def F458 : FuncData := mkF s231 s231 (st 68) 3 .none .none .none (.str s340 726) (.ref 457) .none 0
noncomputable def o458 (P : Params) : Obj := ⟨.type "function", none, .func F458, #[]⟩
noncomputable def o459 (P : Params) : Obj := ⟨(.type "tuple"), none, (.seq #[] 0), #[]⟩
noncomputable def o460 (P : Params) : Obj := ⟨.none, none, (.fields #[]), #[]⟩
noncomputable def o461 (P : Params) : Obj := ⟨(.type "tuple"), none, (.seq #[(.str s329 802), (.str s344 803), (.str s342 804)] 0), #[]⟩
noncomputable def o462 (P : Params) : Obj := ⟨(.type "tuple"), none, (.seq #[] 0), #[]⟩
noncomputable def o463 (P : Params) : Obj := ⟨.none, none, (.func (mkF s232 s232 (st 69) 0 .none .none .none .none .none .none 0)), #[]⟩
noncomputable def o464 (P : Params) : Obj := ⟨(.type "code"), none, (.fields #[(.str s232 799), (.str s232 800), (.str s167 801), (.int 385 0), (.int 3 0), (.int 0 0), (.int 0 0), (.int 3 0), (.ref 459), (.bool true), (.int 181 0), (.ref 460), .none, (.ref 461), (.ref 462), (.ref 463), (.int 805 0), (.int 385 0), (.str s167 806)]), #[]⟩
noncomputable def F465 : FuncData := mkF s232 s232 (st 69) 3 .none .none .none (.str s340 726) (.ref 464) .none 0
noncomputable def o465 (P : Params) : Obj := ⟨.type "function", none, .func F465, #[]⟩
noncomputable def o466 (P : Params) : Obj := ⟨(.type "tuple"), none, (.seq #[] 0), #[]⟩
noncomputable def o467 (P : Params) : Obj := ⟨.none, none, (.fields #[]), #[]⟩
noncomputable def o468 (P : Params) : Obj := ⟨(.type "tuple"), none, (.seq #[(.str s329 811), (.str s344 812)] 0), #[]⟩
noncomputable def o469 (P : Params) : Obj := ⟨(.type "tuple"), none, (.seq #[] 0), #[]⟩
noncomputable def o470 (P : Params) : Obj := ⟨.none, none, (.func (mkF s233 s233 (st 70) 0 .none .none .none .none .none .none 0)), #[]⟩
noncomputable def o471 (P : Params) : Obj := ⟨(.type "code"), none, (.fields #[(.str s233 808), (.str s233 809), (.str s167 810), (.int 391 0), (.int 2 0), (.int 0 0), (.int 0 0), (.int 3 0), (.ref 466), (.bool true), (.int 181 0), (.ref 467), .none, (.ref 468), (.ref 469), (.ref 470), (.int 813 0), (.int 391 0), (.str s167 814)]), #[]⟩
noncomputable def F472 : FuncData := mkF s233 s233 (st 70) 3 .none .none .none (.str s340 726) (.ref 471) .none 0
noncomputable def o472 (P : Params) : Obj := ⟨.type "function", none, .func F472, #[]⟩
noncomputable def o473 (P : Params) : Obj := ⟨(.type "tuple"), none, (.seq #[] 0), #[]⟩
noncomputable def o474 (P : Params) : Obj := ⟨.none, none, (.fields #[]), #[]⟩
noncomputable def o475 (P : Params) : Obj := ⟨(.type "tuple"), none, (.seq #[(.str s329 819), (.str s344 820), (.str s345 821), (.str s342 822)] 0), #[]⟩
noncomputable def o476 (P : Params) : Obj := ⟨(.type "tuple"), none, (.seq #[] 0), #[]⟩
noncomputable def o477 (P : Params) : Obj := ⟨.none, none, (.func (mkF s234 s234 (st 71) 0 .none .none .none .none .none .none 0)), #[]⟩
noncomputable def o478 (P : Params) : Obj := ⟨(.type "code"), none, (.fields #[(.str s234 816), (.str s234 817), (.str s167 818), (.int 399 0), (.int 4 0), (.int 0 0), (.int 0 0), (.int 3 0), (.ref 473), (.bool true), (.int 181 0), (.ref 474), .none, (.ref 475), (.ref 476), (.ref 477), (.int 823 0), (.int 399 0), (.str s167 824)]), #[]⟩
noncomputable def F479 : FuncData := mkF s234 s234 (st 71) 3 .none .none .none (.str s340 726) (.ref 478) .none 0
noncomputable def o479 (P : Params) : Obj := ⟨.type "function", none, .func F479, #[]⟩
noncomputable def o480 (P : Params) : Obj := ⟨(.type "tuple"), none, (.seq #[] 0), #[]⟩
noncomputable def o481 (P : Params) : Obj := ⟨.none, none, (.fields #[]), #[]⟩
noncomputable def o482 (P : Params) : Obj := ⟨(.type "tuple"), none, (.seq #[(.str s329 829)] 0), #[]⟩
noncomputable def o483 (P : Params) : Obj := ⟨(.type "tuple"), none, (.seq #[] 0), #[]⟩
noncomputable def o484 (P : Params) : Obj := ⟨.none, none, (.func (mkF s235 s235 (st 72) 0 .none .none .none .none .none .none 0)), #[]⟩
noncomputable def o485 (P : Params) : Obj := ⟨(.type "code"), none, (.fields #[(.str s235 826), (.str s235 827), (.str s167 828), (.int 413 0), (.int 1 0), (.int 0 0), (.int 0 0), (.int 3 0), (.ref 480), (.bool true), (.int 181 0), (.ref 481), .none, (.ref 482), (.ref 483), (.ref 484), (.int 830 0), (.int 413 0), (.str s167 831)]), #[]⟩
noncomputable def F486 : FuncData := mkF s235 s235 (st 72) 3 .none .none .none (.str s340 726) (.ref 485) .none 0
noncomputable def o486 (P : Params) : Obj := ⟨.type "function", none, .func F486, #[]⟩
noncomputable def o487 (P : Params) : Obj := ⟨(.type "tuple"), none, (.seq #[] 0), #[]⟩
noncomputable def o488 (P : Params) : Obj := ⟨.none, none, (.fields #[]), #[]⟩
noncomputable def o489 (P : Params) : Obj := ⟨(.type "tuple"), none, (.seq #[(.str s329 836), (.str s344 837), (.str s345 838), (.str s342 839)] 0), #[]⟩
noncomputable def o490 (P : Params) : Obj := ⟨(.type "tuple"), none, (.seq #[] 0), #[]⟩
noncomputable def o491 (P : Params) : Obj := ⟨.none, none, (.func (mkF s236 s236 (st 73) 0 .none .none .none .none .none .none 0)), #[]⟩
noncomputable def o492 (P : Params) : Obj := ⟨(.type "code"), none, (.fields #[(.str s236 833), (.str s236 834), (.str s167 835), (.int 415 0), (.int 4 0), (.int 0 0), (.int 0 0), (.int 3 0), (.ref 487), (.bool true), (.int 181 0), (.ref 488), .none, (.ref 489), (.ref 490), (.ref 491), (.int 840 0), (.int 415 0), (.str s167 841)]), #[]⟩
noncomputable def F493 : FuncData := mkF s236 s236 (st 73) 3 .none .none .none (.str s340 726) (.ref 492) .none 0
noncomputable def o493 (P : Params) : Obj := ⟨.type "function", none, .func F493, #[]⟩
noncomputable def o494 (P : Params) : Obj := ⟨(.type "tuple"), none, (.seq #[] 0), #[]⟩
noncomputable def o495 (P : Params) : Obj := ⟨.none, none, (.fields #[]), #[]⟩
noncomputable def o496 (P : Params) : Obj := ⟨(.type "tuple"), none, (.seq #[(.str s271 846), (.str s329 847)] 0), #[]⟩
noncomputable def o497 (P : Params) : Obj := ⟨(.type "tuple"), none, (.seq #[] 0), #[]⟩
noncomputable def o498 (P : Params) : Obj := ⟨.none, none, (.func (mkF s237 s237 (st 74) 0 .none .none .none .none .none .none 0)), #[]⟩
noncomputable def o499 (P : Params) : Obj := ⟨(.type "code"), none, (.fields #[(.str s237 843), (.str s237 844), (.str s167 845), (.int 421 0), (.int 2 0), (.int 0 0), (.int 0 0), (.int 3 0), (.ref 494), (.bool true), (.int 181 0), (.ref 495), .none, (.ref 496), (.ref 497), (.ref 498), (.int 848 0), (.int 421 0), (.str s167 849)]), #[]⟩
noncomputable def F500 : FuncData := mkF s237 s237 (st 74) 3 .none .none .none (.str s340 726) (.ref 499) .none 0
noncomputable def o500 (P : Params) : Obj := ⟨.type "function", none, .func F500, #[]⟩
noncomputable def o501 (P : Params) : Obj := ⟨(.type "tuple"), none, (.seq #[] 0), #[]⟩
noncomputable def o502 (P : Params) : Obj := ⟨.none, none, (.fields #[]), #[]⟩
noncomputable def o503 (P : Params) : Obj := ⟨.none, none, (.func (mkF s238 s238 (st 75) 0 .none .none .none .none .none .none 0)), #[]⟩
noncomputable def o504 (P : Params) : Obj := ⟨(.type "code"), none, (.fields #[(.str s238 851), (.str s238 852), (.str s167 853), (.int 423 0), (.int 2 0), (.int 0 0), (.int 0 0), (.int 3 0), (.ref 501), (.bool true), (.int 181 0), (.ref 502), .none, .none, .none, (.ref 503), (.int 854 0), (.int 423 0), (.str s167 855)]), #[]⟩
noncomputable def F505 : FuncData := mkF s238 s238 (st 75) 3 .none .none .none (.str s340 726) (.ref 504) .none 0
noncomputable def o505 (P : Params) : Obj := ⟨.type "function", none, .func F505, #[]⟩
noncomputable def o506 (P : Params) : Obj := ⟨(.type "tuple"), none, (.seq #[] 0), #[]⟩
noncomputable def o507 (P : Params) : Obj := ⟨.none, none, (.fields #[]), #[]⟩
noncomputable def o508 (P : Params) : Obj := ⟨(.type "tuple"), none, (.seq #[(.str s271 860), (.str s338 861)] 0), #[]⟩
noncomputable def o509 (P : Params) : Obj := ⟨(.type "tuple"), none, (.seq #[] 0), #[]⟩
noncomputable def o510 (P : Params) : Obj := ⟨.none, none, (.func (mkF s239 s239 (st 76) 0 .none .none .none .none .none .none 0)), #[]⟩
noncomputable def o511 (P : Params) : Obj := ⟨(.type "code"), none, (.fields #[(.str s239 857), (.str s239 858), (.str s167 859), (.int 437 0), (.int 2 0), (.int 0 0), (.int 0 0), (.int 3 0), (.ref 506), (.bool true), (.int 181 0), (.ref 507), .none, (.ref 508), (.ref 509), (.ref 510), (.int 862 0), (.int 437 0), (.str s167 863)]), #[]⟩
noncomputable def F512 : FuncData := mkF s239 s239 (st 76) 3 .none .none .none (.str s340 726) (.ref 511) .none 0
noncomputable def o512 (P : Params) : Obj := ⟨.type "function", none, .func F512, #[]⟩
noncomputable def o513 (P : Params) : Obj := ⟨(.type "tuple"), none, (.seq #[] 0), #[]⟩
noncomputable def o514 (P : Params) : Obj := ⟨.none, none, (.fields #[]), #[]⟩
noncomputable def o515 (P : Params) : Obj := ⟨.none, none, (.func (mkF s240 s240 (st 77) 0 .none .none .none .none .none .none 0)), #[]⟩
noncomputable def o516 (P : Params) : Obj := ⟨(.type "code"), none, (.fields #[(.str s240 865), (.str s240 866), (.str s167 867), (.int 441 0), (.int 3 0), (.int 0 0), (.int 0 0), (.int 3 0), (.ref 513), (.bool true), (.int 181 0), (.ref 514), .none, .none, .none, (.ref 515), (.int 868 0), (.int 441 0), (.str s167 869)]), #[]⟩
noncomputable def F517 : FuncData := mkF s240 s240 (st 77) 3 .none .none .none (.str s340 726) (.ref 516) .none 0
noncomputable def o517 (P : Params) : Obj := ⟨.type "function", none, .func F517, #[]⟩
noncomputable def o518 (P : Params) : Obj := ⟨(.type "tuple"), none, (.seq #[] 0), #[]⟩
noncomputable def o519 (P : Params) : Obj := ⟨(.type "builtin_function_or_method"), none, (.fields #[(.builtin "type.__prepare__"), (.type "type")]), #[]⟩
noncomputable def o520 (P : Params) : Obj := ⟨(.type "dict"), none, (.dict #[en P s275 882 (.str s346 871), en P s277 884 (.str s242 883), en P s278 886 (.int 450 885), en P s281 893 (.ref 531), en P s279 897 (.ref 532)] 5), #[]⟩
noncomputable def o521 (P : Params) : Obj := ⟨(.type "tuple"), none, (.seq #[] 0), #[]⟩
noncomputable def o522 (P : Params) : Obj := ⟨.none, none, (.fields #[(.int 452 0), (.int 4 0), (.ref 530)]), #[]⟩
noncomputable def o523 (P : Params) : Obj := ⟨(.type "code"), none, (.fields #[(.str s242 877), (.str s242 878), (.str s167 879), (.int 450 0), (.int 0 0), (.int 0 0), (.int 0 0), (.int 0 0), (.ref 521), (.bool false), (.int 181 0), (.ref 522), .none, .none, .none, .none, (.int 880 0), (.int 450 0), (.str s167 881)]), #[]⟩
noncomputable def o524 (P : Params) : Obj := ⟨(.type "frame"), none, .plain, #[some (.ref 523), some (.ref 3), some (.ref 520), none, some (.str s346 871), none, some (.ref 0)]⟩
noncomputable def o525 (P : Params) : Obj := ⟨(.type "tuple"), none, (.seq #[] 0), #[]⟩
noncomputable def o526 (P : Params) : Obj := ⟨.none, none, (.fields #[]), #[]⟩
noncomputable def o527 (P : Params) : Obj := ⟨(.type "tuple"), none, (.seq #[(.str s282 890)] 0), #[]⟩
noncomputable def o528 (P : Params) : Obj := ⟨(.type "tuple"), none, (.seq #[] 0), #[]⟩
noncomputable def o529 (P : Params) : Obj := ⟨.none, none, (.func (mkF s281 s347 (sc 80 0) 0 .none .none .none .none .none .none 0)), #[]⟩
noncomputable def o530 (P : Params) : Obj := ⟨(.type "code"), none, (.fields #[(.str s281 887), (.str s347 888), (.str s167 889), (.int 452 0), (.int 1 0), (.int 0 0), (.int 0 0), (.int 3 0), (.ref 525), (.bool true), (.int 181 0), (.ref 526), .none, (.ref 527), (.ref 528), (.ref 529), (.int 891 0), (.int 452 0), (.str s167 892)]), #[]⟩
noncomputable def F531 : FuncData := mkF s281 s347 (sc 80 0) 3 .none .none .none (.str s346 871) (.ref 530) .none 0
noncomputable def o531 (P : Params) : Obj := ⟨.type "function", none, .func F531, #[]⟩
noncomputable def o532 (P : Params) : Obj := ⟨(.type "tuple"), none, (.seq #[(.str s305 894), (.str s338 895), (.str ⟨#[110, 117, 109, 98, 101, 114]⟩ 896)] 0), #[]⟩
noncomputable def o533 (P : Params) : Obj := ⟨(.type "dict"), none, (.dict #[en P s275 882 (.str s346 871), en P s278 886 (.int 450 885), en P s281 893 (.ref 531), en P s279 897 (.ref 532), en P s330 899 (.ref 535), en P s280 901 (.ref 536), en P s2 902 .none] 4), #[]⟩
noncomputable def o534 (P : Params) : Obj := ⟨(.type "type"), none, (.cls (mkC s242 [(.type "object")] [(.ref 534), (.type "object")] 533 s242 true [] [] false none false)), #[none, none, some (.str s242 875), some (.str s242 883), some (.builtin "object.__new__"), some (.bool true)]⟩
noncomputable def o535 (P : Params) : Obj := ⟨(.type "getset_descriptor"), none, (.fields #[(.str s330 898), (.ref 534), (.builtin "function.__dict__"), (.builtin "function.__dict__#set")]), #[]⟩
noncomputable def o536 (P : Params) : Obj := ⟨(.type "getset_descriptor"), none, (.fields #[(.str s280 900), (.ref 534), (.builtin "ExceptionGroup.__weakref__"), .none]), #[]⟩
noncomputable def o537 (P : Params) : Obj := ⟨(.type "super"), none, (.fields #[(.ref 534), (.ref 534), (.ref 534)]), #[]⟩
noncomputable def o538 (P : Params) : Obj := ⟨(.type "builtin_function_or_method"), none, (.fields #[(.builtin "object.__init_subclass__"), (.ref 534)]), #[]⟩
noncomputable def o539 (P : Params) : Obj := ⟨(.type "tuple"), none, (.seq #[] 0), #[]⟩
noncomputable def o540 (P : Params) : Obj := ⟨.none, none, (.fields #[]), #[]⟩
noncomputable def o541 (P : Params) : Obj := ⟨(.type "tuple"), none, (.seq #[(.str s271 908), (.str s349 909)] 0), #[]⟩
noncomputable def o542 (P : Params) : Obj := ⟨(.type "tuple"), none, (.seq #[] 0), #[]⟩
noncomputable def o543 (P : Params) : Obj := ⟨.none, none, (.func (mkF s243 s243 (st 81) 0 .none .none .none .none .none .none 0)), #[]⟩
noncomputable def o544 (P : Params) : Obj := ⟨(.type "code"), none, (.fields #[(.str s243 905), (.str s243 906), (.str s167 907), (.int 456 0), (.int 2 0), (.int 0 0), (.int 0 0), (.int 3 0), (.ref 539), (.bool true), (.int 181 0), (.ref 540), .none, (.ref 541), (.ref 542), (.ref 543), (.int 910 0), (.int 456 0), (.str s167 911)]), #[]⟩
noncomputable def F545 : FuncData := mkF s243 s243 (st 81) 3 .none .none .none (.str s346 871) (.ref 544) .none 0
noncomputable def o545 (P : Params) : Obj := ⟨.type "function", none, .func F545, #[]⟩
noncomputable def o546 (P : Params) : Obj := ⟨(.type "tuple"), none, (.seq #[] 0), #[]⟩
noncomputable def o547 (P : Params) : Obj := ⟨.none, none, (.fields #[]), #[]⟩
noncomputable def o548 (P : Params) : Obj := ⟨(.type "tuple"), none, (.seq #[(.str s271 916), (.str s349 917), (.str ⟨#[116, 111, 116, 97, 108]⟩ 918), (.str s344 919)] 0), #[]⟩
noncomputable def o549 (P : Params) : Obj := ⟨(.type "tuple"), none, (.seq #[] 0), #[]⟩
noncomputable def o550 (P : Params) : Obj := ⟨.none, none, (.func (mkF s244 s244 (st 82) 0 .none .none .none .none .none .none 0)), #[]⟩
noncomputable def o551 (P : Params) : Obj := ⟨(.type "code"), none, (.fields #[(.str s244 913), (.str s244 914), (.str s167 915), (.int 458 0), (.int 2 0), (.int 0 0), (.int 0 0), (.int 3 0), (.ref 546), (.bool true), (.int 181 0), (.ref 547), .none, (.ref 548), (.ref 549), (.ref 550), (.int 920 0), (.int 458 0), (.str s167 921)]), #[]⟩
noncomputable def F552 : FuncData := mkF s244 s244 (st 82) 3 .none .none .none (.str s346 871) (.ref 551) .none 0
noncomputable def o552 (P : Params) : Obj := ⟨.type "function", none, .func F552, #[]⟩
noncomputable def o553 (P : Params) : Obj := ⟨(.type "tuple"), none, (.seq #[] 0), #[]⟩
noncomputable def o554 (P : Params) : Obj := ⟨.none, none, (.fields #[]), #[]⟩
noncomputable def o555 (P : Params) : Obj := ⟨(.type "tuple"), none, (.seq #[(.str s272 926)] 0), #[]⟩
noncomputable def o556 (P : Params) : Obj := ⟨(.type "tuple"), none, (.seq #[] 0), #[]⟩
noncomputable def o557 (P : Params) : Obj := ⟨.none, none, (.func (mkF s245 s245 (st 83) 0 .none .none .none .none .none .none 0)), #[]⟩
noncomputable def o558 (P : Params) : Obj := ⟨(.type "code"), none, (.fields #[(.str s245 923), (.str s245 924), (.str s167 925), (.int 469 0), (.int 1 0), (.int 0 0), (.int 0 0), (.int 3 0), (.ref 553), (.bool true), (.int 181 0), (.ref 554), .none, (.ref 555), (.ref 556), (.ref 557), (.int 927 0), (.int 469 0), (.str s167 928)]), #[]⟩
noncomputable def F559 : FuncData := mkF s245 s245 (st 83) 3 .none .none .none (.str s346 871) (.ref 558) .none 0
noncomputable def o559 (P : Params) : Obj := ⟨.type "function", none, .func F559, #[]⟩
noncomputable def o560 (P : Params) : Obj := ⟨(.type "tuple"), none, (.seq #[] 0), #[]⟩
noncomputable def o561 (P : Params) : Obj := ⟨.none, none, (.fields #[]), #[]⟩
noncomputable def o562 (P : Params) : Obj := ⟨(.type "tuple"), none, (.seq #[(.str s313 933), (.str s351 934)] 0), #[]⟩
noncomputable def o563 (P : Params) : Obj := ⟨(.type "tuple"), none, (.seq #[] 0), #[]⟩
noncomputable def o564 (P : Params) : Obj := ⟨.none, none, (.func (mkF s246 s246 (st 84) 0 .none .none .none .none .none .none 0)), #[]⟩
noncomputable def o565 (P : Params) : Obj := ⟨(.type "code"), none, (.fields #[(.str s246 930), (.str s246 931), (.str s167 932), (.int 471 0), (.int 2 0), (.int 0 0), (.int 0 0), (.int 3 0), (.ref 560), (.bool true), (.int 181 0), (.ref 561), .none, (.ref 562), (.ref 563), (.ref 564), (.int 935 0), (.int 471 0), (.str s167 936)]), #[]⟩
noncomputable def F566 : FuncData := mkF s246 s246 (st 84) 3 .none .none .none (.str s346 871) (.ref 565) .none 0
noncomputable def o566 (P : Params) : Obj := ⟨.type "function", none, .func F566, #[]⟩
noncomputable def o567 (P : Params) : Obj := ⟨(.type "tuple"), none, (.seq #[] 0), #[]⟩
noncomputable def o568 (P : Params) : Obj := ⟨.none, none, (.fields #[]), #[]⟩
noncomputable def o569 (P : Params) : Obj := ⟨(.type "tuple"), none, (.seq #[(.str s313 941), (.str s272 942), (.str s296 943)] 0), #[]⟩
noncomputable def o570 (P : Params) : Obj := ⟨(.type "tuple"), none, (.seq #[] 0), #[]⟩
noncomputable def o571 (P : Params) : Obj := ⟨.none, none, (.func (mkF s247 s247 (st 85) 0 .none .none .none .none .none .none 0)), #[]⟩
noncomputable def o572 (P : Params) : Obj := ⟨(.type "code"), none, (.fields #[(.str s247 938), (.str s247 939), (.str s167 940), (.int 477 0), (.int 3 0), (.int 0 0), (.int 0 0), (.int 3 0), (.ref 567), (.bool true), (.int 181 0), (.ref 568), .none, (.ref 569), (.ref 570), (.ref 571), (.int 944 0), (.int 477 0), (.str s167 945)]), #[]⟩
noncomputable def F573 : FuncData := mkF s247 s247 (st 85) 3 .none .none .none (.str s346 871) (.ref 572) .none 0
noncomputable def o573 (P : Params) : Obj := ⟨.type "function", none, .func F573, #[]⟩
noncomputable def o574 (P : Params) : Obj := ⟨(.type "tuple"), none, (.seq #[] 0), #[]⟩
noncomputable def o575 (P : Params) : Obj := ⟨.none, none, (.fields #[]), #[]⟩
noncomputable def o576 (P : Params) : Obj := ⟨(.type "tuple"), none, (.seq #[(.str s271 950), (.str s338 951)] 0), #[]⟩
noncomputable def o577 (P : Params) : Obj := ⟨(.type "tuple"), none, (.seq #[] 0), #[]⟩
noncomputable def o578 (P : Params) : Obj := ⟨.none, none, (.func (mkF s248 s248 (st 86) 0 .none .none .none .none .none .none 0)), #[]⟩
noncomputable def o579 (P : Params) : Obj := ⟨(.type "code"), none, (.fields #[(.str s248 947), (.str s248 948), (.str s167 949), (.int 483 0), (.int 1 0), (.int 0 0), (.int 0 0), (.int 3 0), (.ref 574), (.bool true), (.int 181 0), (.ref 575), .none, (.ref 576), (.ref 577), (.ref 578), (.int 952 0), (.int 483 0), (.str s167 953)]), #[]⟩
noncomputable def F580 : FuncData := mkF s248 s248 (st 86) 3 .none .none .none (.str s346 871) (.ref 579) .none 0
noncomputable def o580 (P : Params) : Obj := ⟨.type "function", none, .func F580, #[]⟩
noncomputable def o581 (P : Params) : Obj := ⟨(.type "tuple"), none, (.seq #[] 0), #[]⟩
noncomputable def o582 (P : Params) : Obj := ⟨.none, none, (.fields #[]), #[]⟩
noncomputable def o583 (P : Params) : Obj := ⟨(.type "tuple"), none, (.seq #[(.str s271 958), (.str s313 959), (.str s351 960), (.str s349 961), (.str s296 962), (.str s320 963), (.str s305 964), (.str s338 965), (.str ⟨#[105]⟩ 966), (.str s272 967)] 0), #[]⟩
noncomputable def o584 (P : Params) : Obj := ⟨(.type "tuple"), none, (.seq #[] 0), #[]⟩
noncomputable def o585 (P : Params) : Obj := ⟨.none, none, (.func (mkF s249 s249 (st 87) 0 .none .none .none .none .none .none 0)), #[]⟩
noncomputable def o586 (P : Params) : Obj := ⟨(.type "code"), none, (.fields #[(.str s249 955), (.str s249 956), (.str s167 957), (.int 488 0), (.int 5 0), (.int 0 0), (.int 0 0), (.int 3 0), (.ref 581), (.bool true), (.int 181 0), (.ref 582), .none, (.ref 583), (.ref 584), (.ref 585), (.int 968 0), (.int 488 0), (.str s167 969)]), #[]⟩
noncomputable def F587 : FuncData := mkF s249 s249 (st 87) 3 .none .none .none (.str s346 871) (.ref 586) .none 0
noncomputable def o587 (P : Params) : Obj := ⟨.type "function", none, .func F587, #[]⟩
noncomputable def o588 (P : Params) : Obj := ⟨(.type "tuple"), none, (.seq #[] 0), #[]⟩
noncomputable def o589 (P : Params) : Obj := ⟨.none, none, (.fields #[]), #[]⟩
noncomputable def o590 (P : Params) : Obj := ⟨(.type "tuple"), none, (.seq #[(.str s271 974), (.str s349 975), (.str s344 976)] 0), #[]⟩
noncomputable def o591 (P : Params) : Obj := ⟨(.type "tuple"), none, (.seq #[] 0), #[]⟩
noncomputable def o592 (P : Params) : Obj := ⟨.none, none, (.func (mkF s250 s250 (st 88) 0 .none .none .none .none .none .none 0)), #[]⟩
noncomputable def o593 (P : Params) : Obj := ⟨(.type "code"), none, (.fields #[(.str s250 971), (.str s250 972), (.str s167 973), (.int 510 0), (.int 2 0), (.int 0 0), (.int 0 0), (.int 3 0), (.ref 588), (.bool true), (.int 181 0), (.ref 589), .none, (.ref 590), (.ref 591), (.ref 592), (.int 977 0), (.int 510 0), (.str s167 978)]), #[]⟩
noncomputable def F594 : FuncData := mkF s250 s250 (st 88) 3 .none .none .none (.str s346 871) (.ref 593) .none 0
noncomputable def o594 (P : Params) : Obj := ⟨.type "function", none, .func F594, #[]⟩
noncomputable def o595 (P : Params) : Obj := ⟨(.type "tuple"), none, (.seq #[] 0), #[]⟩
noncomputable def o596 (P : Params) : Obj := ⟨.none, none, (.fields #[]), #[]⟩
noncomputable def o597 (P : Params) : Obj := ⟨(.type "tuple"), none, (.seq #[(.str ⟨#[97, 114, 103, 115]⟩ 983), (.str s349 984), (.str ⟨#[115, 111, 109, 101]⟩ 985), (.str s351 986), (.str s314 987), (.str s296 988)] 0), #[]⟩
noncomputable def o598 (P : Params) : Obj := ⟨(.type "tuple"), none, (.seq #[] 0), #[]⟩
noncomputable def o599 (P : Params) : Obj := ⟨.none, none, (.func (mkF s251 s251 (st 89) 0 .none .none .none .none .none .none 0)), #[]⟩
noncomputable def o600 (P : Params) : Obj := ⟨(.type "code"), none, (.fields #[(.str s251 980), (.str s251 981), (.str s167 982), (.int 520 0), (.int 2 0), (.int 0 0), (.int 0 0), (.int 3 0), (.ref 595), (.bool true), (.int 181 0), (.ref 596), .none, (.ref 597), (.ref 598), (.ref 599), (.int 989 0), (.int 520 0), (.str s167 990)]), #[]⟩
noncomputable def F601 : FuncData := mkF s251 s251 (st 89) 3 .none .none .none (.str s346 871) (.ref 600) .none 0
noncomputable def o601 (P : Params) : Obj := ⟨.type "function", none, .func F601, #[]⟩
noncomputable def o602 (P : Params) : Obj := ⟨(.type "tuple"), none, (.seq #[] 0), #[]⟩
noncomputable def o603 (P : Params) : Obj := ⟨.none, none, (.fields #[]), #[]⟩
noncomputable def o604 (P : Params) : Obj := ⟨(.type "tuple"), none, (.seq #[(.str s271 995), (.str s349 996), (.str ⟨#[112, 97, 114, 116, 115]⟩ 997), (.str ⟨#[109, 101, 116]⟩ 998), (.str ⟨#[100, 101, 112, 116, 104]⟩ 999), (.str s344 1000)] 0), #[]⟩
noncomputable def o605 (P : Params) : Obj := ⟨(.type "tuple"), none, (.seq #[] 0), #[]⟩
noncomputable def o606 (P : Params) : Obj := ⟨.none, none, (.func (mkF s252 s252 (st 90) 0 .none .none .none .none .none .none 0)), #[]⟩
noncomputable def o607 (P : Params) : Obj := ⟨(.type "code"), none, (.fields #[(.str s252 992), (.str s252 993), (.str s167 994), (.int 530 0), (.int 5 0), (.int 0 0), (.int 0 0), (.int 3 0), (.ref 602), (.bool true), (.int 181 0), (.ref 603), .none, (.ref 604), (.ref 605), (.ref 606), (.int 1001 0), (.int 530 0), (.str s167 1002)]), #[]⟩
noncomputable def F608 : FuncData := mkF s252 s252 (st 90) 3 .none .none .none (.str s346 871) (.ref 607) .none 0
noncomputable def o608 (P : Params) : Obj := ⟨.type "function", none, .func F608, #[]⟩
noncomputable def o609 (P : Params) : Obj := ⟨(.type "tuple"), none, (.seq #[] 0), #[]⟩
noncomputable def o610 (P : Params) : Obj := ⟨.none, none, (.fields #[]), #[]⟩
noncomputable def o611 (P : Params) : Obj := ⟨(.type "tuple"), none, (.seq #[(.str s297 1007), (.str s329 1008)] 0), #[]⟩
noncomputable def o612 (P : Params) : Obj := ⟨(.type "tuple"), none, (.seq #[] 0), #[]⟩
noncomputable def o613 (P : Params) : Obj := ⟨.none, none, (.func (mkF s253 s253 (st 91) 0 .none .none .none .none .none .none 0)), #[]⟩
noncomputable def o614 (P : Params) : Obj := ⟨(.type "code"), none, (.fields #[(.str s253 1004), (.str s253 1005), (.str s167 1006), (.int 541 0), (.int 2 0), (.int 0 0), (.int 0 0), (.int 3 0), (.ref 609), (.bool true), (.int 181 0), (.ref 610), .none, (.ref 611), (.ref 612), (.ref 613), (.int 1009 0), (.int 541 0), (.str s167 1010)]), #[]⟩
noncomputable def F615 : FuncData := mkF s253 s253 (st 91) 3 .none .none .none (.str s346 871) (.ref 614) .none 0
noncomputable def o615 (P : Params) : Obj := ⟨.type "function", none, .func F615, #[]⟩
noncomputable def o616 (P : Params) : Obj := ⟨(.type "tuple"), none, (.seq #[] 0), #[]⟩
noncomputable def o617 (P : Params) : Obj := ⟨.none, none, (.fields #[]), #[]⟩
noncomputable def o618 (P : Params) : Obj := ⟨.none, none, (.func (mkF s254 s254 (st 92) 0 .none .none .none .none .none .none 0)), #[]⟩
noncomputable def o619 (P : Params) : Obj := ⟨(.type "code"), none, (.fields #[(.str s254 1012), (.str s254 1013), (.str s167 1014), (.int 545 0), (.int 3 0), (.int 0 0), (.int 0 0), (.int 3 0), (.ref 616), (.bool true), (.int 181 0), (.ref 617), .none, .none, .none, (.ref 618), (.int 1015 0), (.int 545 0), (.str s167 1016)]), #[]⟩
noncomputable def F620 : FuncData := mkF s254 s254 (st 92) 3 .none .none .none (.str s346 871) (.ref 619) .none 0
noncomputable def o620 (P : Params) : Obj := ⟨.type "function", none, .func F620, #[]⟩
noncomputable def o621 (P : Params) : Obj := ⟨(.type "tuple"), none, (.seq #[] 0), #[]⟩
noncomputable def o622 (P : Params) : Obj := ⟨.none, none, (.fields #[]), #[]⟩
noncomputable def o623 (P : Params) : Obj := ⟨.none, none, (.func (mkF s255 s255 (st 93) 0 .none .none .none .none .none .none 0)), #[]⟩
noncomputable def o624 (P : Params) : Obj := ⟨(.type "code"), none, (.fields #[(.str s255 1018), (.str s255 1019), (.str s167 1020), (.int 564 0), (.int 3 0), (.int 0 0), (.int 0 0), (.int 3 0), (.ref 621), (.bool true), (.int 181 0), (.ref 622), .none, .none, .none, (.ref 623), (.int 1021 0), (.int 564 0), (.str s167 1022)]), #[]⟩
noncomputable def F625 : FuncData := mkF s255 s255 (st 93) 3 .none .none .none (.str s346 871) (.ref 624) .none 0
noncomputable def o625 (P : Params) : Obj := ⟨.type "function", none, .func F625, #[]⟩
noncomputable def o626 (P : Params) : Obj := ⟨(.type "tuple"), none, (.seq #[] 0), #[]⟩
noncomputable def o627 (P : Params) : Obj := ⟨.none, none, (.fields #[]), #[]⟩
noncomputable def o628 (P : Params) : Obj := ⟨(.type "tuple"), none, (.seq #[(.str s358 1029), (.str ⟨#[108, 105, 109, 105, 116]⟩ 1030)] 0), #[]⟩
noncomputable def o629 (P : Params) : Obj := ⟨(.type "tuple"), none, (.seq #[] 0), #[]⟩
noncomputable def o630 (P : Params) : Obj := ⟨.none, none, (.func (mkF s256 s256 (st 95) 0 .none .none .none .none .none .none 0)), #[]⟩
noncomputable def o631 (P : Params) : Obj := ⟨(.type "code"), none, (.fields #[(.str s256 1026), (.str s256 1027), (.str s167 1028), (.int 570 0), (.int 2 0), (.int 0 0), (.int 0 0), (.int 3 0), (.ref 626), (.bool true), (.int 181 0), (.ref 627), .none, (.ref 628), (.ref 629), (.ref 630), (.int 1031 0), (.int 570 0), (.str s167 1032)]), #[]⟩
noncomputable def F632 : FuncData := mkF s256 s256 (st 95) 3 .none .none .none (.str s163 1024) (.ref 631) .none 0
noncomputable def o632 (P : Params) : Obj := ⟨.type "function", none, .func F632, #[]⟩
noncomputable def o633 (P : Params) : Obj := ⟨(.type "tuple"), none, (.seq #[] 0), #[]⟩
noncomputable def o634 (P : Params) : Obj := ⟨.none, none, (.fields #[]), #[]⟩
noncomputable def o635 (P : Params) : Obj := ⟨(.type "tuple"), none, (.seq #[(.str s358 1037)] 0), #[]⟩
noncomputable def o636 (P : Params) : Obj := ⟨(.type "tuple"), none, (.seq #[] 0), #[]⟩
noncomputable def o637 (P : Params) : Obj := ⟨.none, none, (.func (mkF s257 s257 (st 96) 0 .none .none .none .none .none .none 0)), #[]⟩
noncomputable def o638 (P : Params) : Obj := ⟨(.type "code"), none, (.fields #[(.str s257 1034), (.str s257 1035), (.str s167 1036), (.int 575 0), (.int 1 0), (.int 0 0), (.int 0 0), (.int 3 0), (.ref 633), (.bool true), (.int 181 0), (.ref 634), .none, (.ref 635), (.ref 636), (.ref 637), (.int 1038 0), (.int 575 0), (.str s167 1039)]), #[]⟩
noncomputable def F639 : FuncData := mkF s257 s257 (st 96) 3 .none .none .none (.str s163 1024) (.ref 638) .none 0
noncomputable def o639 (P : Params) : Obj := ⟨.type "function", none, .func F639, #[]⟩
noncomputable def o640 (P : Params) : Obj := ⟨(.type "tuple"), none, (.seq #[] 0), #[]⟩
noncomputable def o641 (P : Params) : Obj := ⟨.none, none, (.fields #[]), #[]⟩
noncomputable def o642 (P : Params) : Obj := ⟨.none, none, (.func (mkF s258 s258 (st 97) 0 .none .none .none .none .none .none 0)), #[]⟩
noncomputable def o643 (P : Params) : Obj := ⟨(.type "code"), none, (.fields #[(.str s258 1041), (.str s258 1042), (.str s167 1043), (.int 577 0), (.int 2 0), (.int 0 0), (.int 0 0), (.int 3 0), (.ref 640), (.bool true), (.int 181 0), (.ref 641), .none, .none, .none, (.ref 642), (.int 1044 0), (.int 577 0), (.str s167 1045)]), #[]⟩
noncomputable def F644 : FuncData := mkF s258 s258 (st 97) 3 .none .none .none (.str s163 1024) (.ref 643) .none 0
noncomputable def o644 (P : Params) : Obj := ⟨.type "function", none, .func F644, #[]⟩
noncomputable def o645 (P : Params) : Obj := ⟨(.type "tuple"), none, (.seq #[] 0), #[]⟩
noncomputable def o646 (P : Params) : Obj := ⟨.none, none, (.fields #[]), #[]⟩
noncomputable def o647 (P : Params) : Obj := ⟨.none, none, (.func (mkF s259 s259 (st 98) 0 .none .none .none .none .none .none 0)), #[]⟩
noncomputable def o648 (P : Params) : Obj := ⟨(.type "code"), none, (.fields #[(.str s259 1047), (.str s259 1048), (.str s167 1049), (.int 592 0), (.int 1 0), (.int 0 0), (.int 0 0), (.int 3 0), (.ref 645), (.bool true), (.int 181 0), (.ref 646), .none, .none, .none, (.ref 647), (.int 1050 0), (.int 592 0), (.str s167 1051)]), #[]⟩
noncomputable def F649 : FuncData := mkF s259 s259 (st 98) 3 .none .none .none (.str s163 1024) (.ref 648) .none 0
noncomputable def o649 (P : Params) : Obj := ⟨.type "function", none, .func F649, #[]⟩
noncomputable def o650 (P : Params) : Obj := ⟨(.type "tuple"), none, (.seq #[] 0), #[]⟩
noncomputable def o651 (P : Params) : Obj := ⟨.none, none, (.fields #[]), #[]⟩
noncomputable def o652 (P : Params) : Obj := ⟨(.type "tuple"), none, (.seq #[(.str s313 1056), (.str s351 1057)] 0), #[]⟩
noncomputable def o653 (P : Params) : Obj := ⟨(.type "tuple"), none, (.seq #[] 0), #[]⟩
noncomputable def o654 (P : Params) : Obj := ⟨.none, none, (.func (mkF s260 s260 (st 99) 0 .none .none .none .none .none .none 0)), #[]⟩
noncomputable def o655 (P : Params) : Obj := ⟨(.type "code"), none, (.fields #[(.str s260 1053), (.str s260 1054), (.str s167 1055), (.int 601 0), (.int 2 0), (.int 0 0), (.int 0 0), (.int 3 0), (.ref 650), (.bool true), (.int 181 0), (.ref 651), .none, (.ref 652), (.ref 653), (.ref 654), (.int 1058 0), (.int 601 0), (.str s167 1059)]), #[]⟩
noncomputable def F656 : FuncData := mkF s260 s260 (st 99) 3 .none .none .none (.str s163 1024) (.ref 655) .none 0
noncomputable def o656 (P : Params) : Obj := ⟨.type "function", none, .func F656, #[]⟩
noncomputable def o657 (P : Params) : Obj := ⟨(.type "tuple"), none, (.seq #[] 0), #[]⟩
noncomputable def o658 (P : Params) : Obj := ⟨.none, none, (.fields #[]), #[]⟩
noncomputable def o659 (P : Params) : Obj := ⟨(.type "tuple"), none, (.seq #[(.str s360 1064), (.str s361 1065)] 0), #[]⟩
noncomputable def o660 (P : Params) : Obj := ⟨(.type "tuple"), none, (.seq #[] 0), #[]⟩
noncomputable def o661 (P : Params) : Obj := ⟨.none, none, (.func (mkF s261 s261 (st 100) 0 .none .none .none .none .none .none 0)), #[]⟩
noncomputable def o662 (P : Params) : Obj := ⟨(.type "code"), none, (.fields #[(.str s261 1061), (.str s261 1062), (.str s167 1063), (.int 605 0), (.int 2 0), (.int 0 0), (.int 0 0), (.int 3 0), (.ref 657), (.bool true), (.int 181 0), (.ref 658), .none, (.ref 659), (.ref 660), (.ref 661), (.int 1066 0), (.int 605 0), (.str s167 1067)]), #[]⟩
noncomputable def F663 : FuncData := mkF s261 s261 (st 100) 3 .none .none .none (.str s163 1024) (.ref 662) .none 0
noncomputable def o663 (P : Params) : Obj := ⟨.type "function", none, .func F663, #[]⟩
noncomputable def o664 (P : Params) : Obj := ⟨(.type "tuple"), none, (.seq #[] 0), #[]⟩
noncomputable def o665 (P : Params) : Obj := ⟨.none, none, (.fields #[]), #[]⟩
noncomputable def o666 (P : Params) : Obj := ⟨(.type "tuple"), none, (.seq #[(.str s360 1072), (.str s361 1073), (.str s313 1074), (.str ⟨#[97, 114, 111, 117, 110, 100]⟩ 1075), (.str s292 1076), (.str ⟨#[104, 101, 97, 100, 115]⟩ 1077), (.str ⟨#[115, 112, 111, 116]⟩ 1078), (.str ⟨#[105, 110, 110, 101, 114, 95, 97, 114, 111, 117, 110, 100]⟩ 1079)] 0), #[]⟩
noncomputable def o667 (P : Params) : Obj := ⟨(.type "tuple"), none, (.seq #[] 0), #[]⟩
noncomputable def o668 (P : Params) : Obj := ⟨.none, none, (.func (mkF s262 s262 (st 101) 0 .none .none .none .none .none .none 0)), #[]⟩
noncomputable def o669 (P : Params) : Obj := ⟨(.type "code"), none, (.fields #[(.str s262 1069), (.str s262 1070), (.str s167 1071), (.int 607 0), (.int 5 0), (.int 0 0), (.int 0 0), (.int 3 0), (.ref 664), (.bool true), (.int 181 0), (.ref 665), .none, (.ref 666), (.ref 667), (.ref 668), (.int 1080 0), (.int 607 0), (.str s167 1081)]), #[]⟩
noncomputable def F670 : FuncData := mkF s262 s262 (st 101) 3 .none .none .none (.str s163 1024) (.ref 669) .none 0
noncomputable def o670 (P : Params) : Obj := ⟨.type "function", none, .func F670, #[]⟩
noncomputable def o671 (P : Params) : Obj := ⟨(.type "tuple"), none, (.seq #[] 0), #[]⟩
noncomputable def o672 (P : Params) : Obj := ⟨.none, none, (.fields #[]), #[]⟩
noncomputable def o673 (P : Params) : Obj := ⟨.none, none, (.func (mkF s263 s263 (st 102) 0 .none .none .none .none .none .none 0)), #[]⟩
noncomputable def o674 (P : Params) : Obj := ⟨(.type "code"), none, (.fields #[(.str s263 1083), (.str s263 1084), (.str s167 1085), (.int 624 0), (.int 2 0), (.int 0 0), (.int 0 0), (.int 3 0), (.ref 671), (.bool true), (.int 181 0), (.ref 672), .none, .none, .none, (.ref 673), (.int 1086 0), (.int 624 0), (.str s167 1087)]), #[]⟩
noncomputable def F675 : FuncData := mkF s263 s263 (st 102) 3 .none .none .none (.str s163 1024) (.ref 674) .none 0
noncomputable def o675 (P : Params) : Obj := ⟨.type "function", none, .func F675, #[]⟩
noncomputable def o676 (P : Params) : Obj := ⟨(.type "tuple"), none, (.seq #[] 0), #[]⟩
noncomputable def o677 (P : Params) : Obj := ⟨.none, none, (.fields #[]), #[]⟩
noncomputable def o678 (P : Params) : Obj := ⟨.none, none, (.func (mkF s264 s264 (st 103) 0 .none .none .none .none .none .none 0)), #[]⟩
noncomputable def o679 (P : Params) : Obj := ⟨(.type "code"), none, (.fields #[(.str s264 1089), (.str s264 1090), (.str s167 1091), (.int 630 0), (.int 2 0), (.int 0 0), (.int 0 0), (.int 3 0), (.ref 676), (.bool true), (.int 181 0), (.ref 677), .none, .none, .none, (.ref 678), (.int 1092 0), (.int 630 0), (.str s167 1093)]), #[]⟩
noncomputable def F680 : FuncData := mkF s264 s264 (st 103) 3 .none .none .none (.str s163 1024) (.ref 679) .none 0
noncomputable def o680 (P : Params) : Obj := ⟨.type "function", none, .func F680, #[]⟩
noncomputable def o681 (P : Params) : Obj := ⟨(.type "tuple"), none, (.seq #[] 0), #[]⟩
noncomputable def o682 (P : Params) : Obj := ⟨.none, none, (.fields #[]), #[]⟩
noncomputable def o683 (P : Params) : Obj := ⟨.none, none, (.func (mkF s265 s265 (st 104) 0 .none .none .none .none .none .none 0)), #[]⟩
noncomputable def o684 (P : Params) : Obj := ⟨(.type "code"), none, (.fields #[(.str s265 1095), (.str s265 1096), (.str s167 1097), (.int 636 0), (.int 1 0), (.int 0 0), (.int 0 0), (.int 3 0), (.ref 681), (.bool true), (.int 181 0), (.ref 682), .none, .none, .none, (.ref 683), (.int 1098 0), (.int 636 0), (.str s167 1099)]), #[]⟩
noncomputable def F685 : FuncData := mkF s265 s265 (st 104) 3 .none .none .none (.str s163 1024) (.ref 684) .none 0
noncomputable def o685 (P : Params) : Obj := ⟨.type "function", none, .func F685, #[]⟩
noncomputable def o686 (P : Params) : Obj := ⟨(.type "tuple"), none, (.seq #[] 0), #[]⟩
noncomputable def o687 (P : Params) : Obj := ⟨.none, none, (.fields #[]), #[]⟩
noncomputable def o688 (P : Params) : Obj := ⟨(.type "tuple"), none, (.seq #[(.str s344 1104), (.str s329 1105)] 0), #[]⟩
noncomputable def o689 (P : Params) : Obj := ⟨(.type "tuple"), none, (.seq #[] 0), #[]⟩
noncomputable def o690 (P : Params) : Obj := ⟨.none, none, (.func (mkF s266 s266 (st 105) 0 .none .none .none .none .none .none 0)), #[]⟩
noncomputable def o691 (P : Params) : Obj := ⟨(.type "code"), none, (.fields #[(.str s266 1101), (.str s266 1102), (.str s167 1103), (.int 649 0), (.int 2 0), (.int 0 0), (.int 0 0), (.int 3 0), (.ref 686), (.bool true), (.int 181 0), (.ref 687), .none, (.ref 688), (.ref 689), (.ref 690), (.int 1106 0), (.int 649 0), (.str s167 1107)]), #[]⟩
noncomputable def F692 : FuncData := mkF s266 s266 (st 105) 3 .none .none .none (.str s163 1024) (.ref 691) .none 0
noncomputable def o692 (P : Params) : Obj := ⟨.type "function", none, .func F692, #[]⟩
noncomputable def o693 (P : Params) : Obj := ⟨(.type "tuple"), none, (.seq #[] 0), #[]⟩
noncomputable def o694 (P : Params) : Obj := ⟨.none, none, (.fields #[]), #[]⟩
noncomputable def o695 (P : Params) : Obj := ⟨.none, none, (.func (mkF s267 s267 (st 106) 0 .none .none .none .none .none .none 0)), #[]⟩
noncomputable def o696 (P : Params) : Obj := ⟨(.type "code"), none, (.fields #[(.str s267 1109), (.str s267 1110), (.str s167 1111), (.int 655 0), (.int 4 0), (.int 0 0), (.int 0 0), (.int 3 0), (.ref 693), (.bool true), (.int 181 0), (.ref 694), .none, .none, .none, (.ref 695), (.int 1112 0), (.int 655 0), (.str s167 1113)]), #[]⟩
noncomputable def F697 : FuncData := mkF s267 s267 (st 106) 3 .none .none .none (.str s163 1024) (.ref 696) .none 0
noncomputable def o697 (P : Params) : Obj := ⟨.type "function", none, .func F697, #[]⟩
noncomputable def o698 (P : Params) : Obj := ⟨(.type "tuple"), none, (.seq #[] 0), #[]⟩
noncomputable def o699 (P : Params) : Obj := ⟨.none, none, (.fields #[]), #[]⟩
noncomputable def o700 (P : Params) : Obj := ⟨.none, none, (.func (mkF s268 s268 (st 107) 0 .none .none .none .none .none .none 0)), #[]⟩
noncomputable def o701 (P : Params) : Obj := ⟨(.type "code"), none, (.fields #[(.str s268 1115), (.str s268 1116), (.str s167 1117), (.int 679 0), (.int 1 0), (.int 0 0), (.int 0 0), (.int 3 0), (.ref 698), (.bool true), (.int 181 0), (.ref 699), .none, .none, .none, (.ref 700), (.int 1118 0), (.int 679 0), (.str s167 1119)]), #[]⟩
noncomputable def F702 : FuncData := mkF s268 s268 (st 107) 3 .none .none .none (.str s163 1024) (.ref 701) .none 0
noncomputable def o702 (P : Params) : Obj := ⟨.type "function", none, .func F702, #[]⟩
noncomputable def va_2 (P : Params) : Obj := ⟨.none, none, (.dict #[] 0), #[]⟩
noncomputable def va_3 (P : Params) : Obj := ⟨(.type "dict"), none, (.dict #[en P s0 165 (.str s160 164), q_0 P, q_1 P, q_2 P, q_3 P, q_4 P, q_5 P, q_6 P, q_7 P] 9), #[]⟩
noncomputable def va_12 (P : Params) : Obj := ⟨.none, none, (.fields #[]), #[]⟩
abbrev lf (o : Obj) : BT := .node o .nil .nil
noncomputable def ta (P : Params) : BT := (.node (o0 P) (.node (o1 P) (.node (va_3 P) (lf (o7 P)) (lf (o11 P))) (.node (o5 P) (lf (o9 P)) (lf (o13 P)))) (.node (va_2 P) (.node (o4 P) (lf (o8 P)) (.node (va_12 P) .nil .nil)) (.node (o6 P) (lf (o10 P)) (lf (o14 P)))))
noncomputable def Sa (w : World) (os : OsState) : SharedT := ⟨ta w.params, 15, {}, #[], {}, 187, os⟩
noncomputable def v0_2 (P : Params) : Obj := ⟨.none, none, (.dict #[] 0), #[]⟩
noncomputable def v0_3 (P : Params) : Obj := ⟨(.type "dict"), none, (.dict #[en P s0 165 (.str s160 164), q_0 P, q_1 P, q_2 P, q_3 P, q_4 P, q_5 P, q_6 P, q_7 P] 9), #[]⟩
noncomputable def v0_12 (P : Params) : Obj := ⟨.none, none, (.fields #[]), #[]⟩
noncomputable def t0 (P : Params) : BT := (.node (o0 P) (.node (o1 P) (.node (v0_3 P) (lf (o7 P)) (lf (o11 P))) (.node (o5 P) (lf (o9 P)) (lf (o13 P)))) (.node (v0_2 P) (.node (o4 P) (lf (o8 P)) (lf (v0_12 P))) (.node (o6 P) (lf (o10 P)) (lf (o14 P)))))
noncomputable def S0 (w : World) (os : OsState) : SharedT := ⟨t0 w.params, 15, {}, #[], {}, 187, os⟩
noncomputable def v1_3 (P : Params) : Obj := ⟨(.type "dict"), none, (.dict #[en P s0 165 (.str s276 224), q_0 P, q_1 P, q_2 P, q_3 P, q_4 P, q_5 P, q_6 P, q_7 P, q_8 P, q_9 P, q_10 P, q_11 P, q_12 P, q_13 P] 15), #[]⟩
noncomputable def v1_12 (P : Params) : Obj := ⟨.none, none, (.fields #[(.int 1 0), (.int 0 0), (.ref 20), (.int 5 0), (.int 0 0), (.ref 27), (.int 9 0), (.int 0 0), (.ref 32), (.int 25 0), (.int 0 0), (.ref 39), (.int 30 0), (.int 0 0), (.ref 44), (.int 36 0), (.int 0 0), (.ref 51)]), #[]⟩
noncomputable def v1_55 (P : Params) : Obj := ⟨(.type "type"), none, (.cls (mkC s174 [(.type "Exception")] [(.ref 55), (.type "Exception"), (.type "BaseException"), (.type "object")] 54 s174 true [] [] false none false)), #[some (.ref 46), none, some (.str s174 226), some (.str s174 234), some (.builtin "Exception.__new__"), some (.bool true)]⟩
noncomputable def t1 (P : Params) : BT := (.node (o0 P) (.node (o1 P) (.node (v1_3 P) (.node (o7 P) (.node (o15 P) (lf (o31 P)) (lf (o47 P))) (.node (o23 P) (lf (o39 P)) (lf (v1_55 P)))) (.node (o11 P) (.node (o19 P) (lf (o35 P)) (lf (o51 P))) (.node (o27 P) (lf (o43 P)) .nil))) (.node (o5 P) (.node (o9 P) (.node (o17 P) (lf (o33 P)) (lf (o49 P))) (.node (o25 P) (lf (o41 P)) (lf (o57 P)))) (.node (o13 P) (.node (o21 P) (lf (o37 P)) (lf (o53 P))) (.node (o29 P) (lf (o45 P)) .nil)))) (.node (o2 P) (.node (o4 P) (.node (o8 P) (.node (o16 P) (lf (o32 P)) (lf (o48 P))) (.node (o24 P) (lf (o40 P)) (lf (o56 P)))) (.node (v1_12 P) (.node (o20 P) (lf (o36 P)) (lf (o52 P))) (.node (o28 P) (lf (o44 P)) .nil))) (.node (o6 P) (.node (o10 P) (.node (o18 P) (lf (o34 P)) (lf (o50 P))) (.node (o26 P) (lf (o42 P)) (lf (o58 P)))) (.node (o14 P) (.node (o22 P) (lf (o38 P)) (lf (o54 P))) (.node (o30 P) (lf (o46 P)) .nil)))))
noncomputable def S1 (w : World) (os : OsState) : SharedT := ⟨t1 w.params, 59, {}, #[], {}, 246, os⟩
noncomputable def v2_3 (P : Params) : Obj := ⟨(.type "dict"), none, (.dict #[en P s0 165 (.str s287 271), q_0 P, q_1 P, q_2 P, q_3 P, q_4 P, q_5 P, q_6 P, q_7 P, q_8 P, q_9 P, q_10 P, q_11 P, q_12 P, q_13 P, q_14 P, q_15 P, q_16 P, q_17 P, q_18 P, q_19 P, q_20 P, q_21 P] 23), #[]⟩
noncomputable def v2_12 (P : Params) : Obj := ⟨.none, none, (.fields #[(.int 1 0), (.int 0 0), (.ref 20), (.int 5 0), (.int 0 0), (.ref 27), (.int 9 0), (.int 0 0), (.ref 32), (.int 25 0), (.int 0 0), (.ref 39), (.int 30 0), (.int 0 0), (.ref 44), (.int 36 0), (.int 0 0), (.ref 51), (.int 38 0), (.int 0 0), (.ref 64), (.int 48 0), (.int 0 0), (.ref 86), (.int 52 0), (.int 0 0), (.ref 93)]), #[]⟩
noncomputable def t2 (P : Params) : BT := (.node (o0 P) (.node (o1 P) (.node (v2_3 P) (.node (o7 P) (.node (o15 P) (.node (o31 P) (lf (o63 P)) .nil) (.node (o47 P) (lf (o79 P)) .nil)) (.node (o23 P) (.node (o39 P) (lf (o71 P)) .nil) (.node (o55 P) (lf (o87 P)) .nil))) (.node (o11 P) (.node (o19 P) (.node (o35 P) (lf (o67 P)) .nil) (.node (o51 P) (lf (o83 P)) .nil)) (.node (o27 P) (.node (o43 P) (lf (o75 P)) .nil) (.node (o59 P) (lf (o91 P)) .nil)))) (.node (o5 P) (.node (o9 P) (.node (o17 P) (.node (o33 P) (lf (o65 P)) .nil) (.node (o49 P) (lf (o81 P)) .nil)) (.node (o25 P) (.node (o41 P) (lf (o73 P)) .nil) (.node (o57 P) (lf (o89 P)) .nil))) (.node (o13 P) (.node (o21 P) (.node (o37 P) (lf (o69 P)) .nil) (.node (o53 P) (lf (o85 P)) .nil)) (.node (o29 P) (.node (o45 P) (lf (o77 P)) .nil) (.node (o61 P) (lf (o93 P)) .nil))))) (.node (o2 P) (.node (o4 P) (.node (o8 P) (.node (o16 P) (.node (o32 P) (lf (o64 P)) .nil) (.node (o48 P) (lf (o80 P)) .nil)) (.node (o24 P) (.node (o40 P) (lf (o72 P)) .nil) (.node (o56 P) (lf (o88 P)) .nil))) (.node (v2_12 P) (.node (o20 P) (.node (o36 P) (lf (o68 P)) .nil) (.node (o52 P) (lf (o84 P)) .nil)) (.node (o28 P) (.node (o44 P) (lf (o76 P)) .nil) (.node (o60 P) (lf (o92 P)) .nil)))) (.node (o6 P) (.node (o10 P) (.node (o18 P) (.node (o34 P) (lf (o66 P)) .nil) (.node (o50 P) (lf (o82 P)) .nil)) (.node (o26 P) (.node (o42 P) (lf (o74 P)) .nil) (.node (o58 P) (lf (o90 P)) .nil))) (.node (o14 P) (.node (o22 P) (.node (o38 P) (lf (o70 P)) .nil) (.node (o54 P) (lf (o86 P)) .nil)) (.node (o30 P) (.node (o46 P) (lf (o78 P)) .nil) (.node (o62 P) (lf (o94 P)) .nil))))))
noncomputable def S2 (w : World) (os : OsState) : SharedT := ⟨t2 w.params, 95, {}, #[], {}, 303, os⟩
noncomputable def v3_3 (P : Params) : Obj := ⟨(.type "dict"), none, (.dict #[en P s0 165 (.str s298 368), q_0 P, q_1 P, q_2 P, q_3 P, q_4 P, q_5 P, q_6 P, q_7 P, q_8 P, q_9 P, q_10 P, q_11 P, q_12 P, q_13 P, q_14 P, q_15 P, q_16 P, q_17 P, q_18 P, q_19 P, q_20 P, q_21 P, q_22 P, q_23 P, q_24 P, q_25 P, q_26 P, q_27 P, q_28 P, q_29 P, q_30 P, q_31 P, q_32 P, q_33 P, q_34 P, q_35 P] 37), #[]⟩
noncomputable def v3_12 (P : Params) : Obj := ⟨.none, none, (.fields #[(.int 1 0), (.int 0 0), (.ref 20), (.int 5 0), (.int 0 0), (.ref 27), (.int 9 0), (.int 0 0), (.ref 32), (.int 25 0), (.int 0 0), (.ref 39), (.int 30 0), (.int 0 0), (.ref 44), (.int 36 0), (.int 0 0), (.ref 51), (.int 38 0), (.int 0 0), (.ref 64), (.int 48 0), (.int 0 0), (.ref 86), (.int 52 0), (.int 0 0), (.ref 93), (.int 56 0), (.int 0 0), (.ref 100), (.int 66 0), (.int 0 0), (.ref 107), (.int 70 0), (.int 0 0), (.ref 114), (.int 72 0), (.int 0 0), (.ref 121), (.int 74 0), (.int 0 0), (.ref 128), (.int 78 0), (.int 0 0), (.ref 135), (.int 83 0), (.int 0 0), (.ref 142), (.int 89 0), (.int 0 0), (.ref 149), (.int 103 0), (.int 0 0), (.ref 156), (.int 114 0), (.int 0 0), (.ref 163), (.int 122 0), (.int 0 0), (.ref 170), (.int 127 0), (.int 0 0), (.ref 177)]), #[]⟩
noncomputable def t3 (P : Params) : BT := (.node (o0 P) (.node (o1 P) (.node (v3_3 P) (.node (o7 P) (.node (o15 P) (.node (o31 P) (.node (o63 P) (lf (o127 P)) .nil) (.node (o95 P) (lf (o159 P)) .nil)) (.node (o47 P) (.node (o79 P) (lf (o143 P)) .nil) (.node (o111 P) (lf (o175 P)) .nil))) (.node (o23 P) (.node (o39 P) (.node (o71 P) (lf (o135 P)) .nil) (.node (o103 P) (lf (o167 P)) .nil)) (.node (o55 P) (.node (o87 P) (lf (o151 P)) .nil) (lf (o119 P))))) (.node (o11 P) (.node (o19 P) (.node (o35 P) (.node (o67 P) (lf (o131 P)) .nil) (.node (o99 P) (lf (o163 P)) .nil)) (.node (o51 P) (.node (o83 P) (lf (o147 P)) .nil) (lf (o115 P)))) (.node (o27 P) (.node (o43 P) (.node (o75 P) (lf (o139 P)) .nil) (.node (o107 P) (lf (o171 P)) .nil)) (.node (o59 P) (.node (o91 P) (lf (o155 P)) .nil) (lf (o123 P)))))) (.node (o5 P) (.node (o9 P) (.node (o17 P) (.node (o33 P) (.node (o65 P) (lf (o129 P)) .nil) (.node (o97 P) (lf (o161 P)) .nil)) (.node (o49 P) (.node (o81 P) (lf (o145 P)) .nil) (.node (o113 P) (lf (o177 P)) .nil))) (.node (o25 P) (.node (o41 P) (.node (o73 P) (lf (o137 P)) .nil) (.node (o105 P) (lf (o169 P)) .nil)) (.node (o57 P) (.node (o89 P) (lf (o153 P)) .nil) (lf (o121 P))))) (.node (o13 P) (.node (o21 P) (.node (o37 P) (.node (o69 P) (lf (o133 P)) .nil) (.node (o101 P) (lf (o165 P)) .nil)) (.node (o53 P) (.node (o85 P) (lf (o149 P)) .nil) (lf (o117 P)))) (.node (o29 P) (.node (o45 P) (.node (o77 P) (lf (o141 P)) .nil) (.node (o109 P) (lf (o173 P)) .nil)) (.node (o61 P) (.node (o93 P) (lf (o157 P)) .nil) (lf (o125 P))))))) (.node (o2 P) (.node (o4 P) (.node (o8 P) (.node (o16 P) (.node (o32 P) (.node (o64 P) (lf (o128 P)) .nil) (.node (o96 P) (lf (o160 P)) .nil)) (.node (o48 P) (.node (o80 P) (lf (o144 P)) .nil) (.node (o112 P) (lf (o176 P)) .nil))) (.node (o24 P) (.node (o40 P) (.node (o72 P) (lf (o136 P)) .nil) (.node (o104 P) (lf (o168 P)) .nil)) (.node (o56 P) (.node (o88 P) (lf (o152 P)) .nil) (lf (o120 P))))) (.node (v3_12 P) (.node (o20 P) (.node (o36 P) (.node (o68 P) (lf (o132 P)) .nil) (.node (o100 P) (lf (o164 P)) .nil)) (.node (o52 P) (.node (o84 P) (lf (o148 P)) .nil) (lf (o116 P)))) (.node (o28 P) (.node (o44 P) (.node (o76 P) (lf (o140 P)) .nil) (.node (o108 P) (lf (o172 P)) .nil)) (.node (o60 P) (.node (o92 P) (lf (o156 P)) .nil) (lf (o124 P)))))) (.node (o6 P) (.node (o10 P) (.node (o18 P) (.node (o34 P) (.node (o66 P) (lf (o130 P)) .nil) (.node (o98 P) (lf (o162 P)) .nil)) (.node (o50 P) (.node (o82 P) (lf (o146 P)) .nil) (.node (o114 P) (lf (o178 P)) .nil))) (.node (o26 P) (.node (o42 P) (.node (o74 P) (lf (o138 P)) .nil) (.node (o106 P) (lf (o170 P)) .nil)) (.node (o58 P) (.node (o90 P) (lf (o154 P)) .nil) (lf (o122 P))))) (.node (o14 P) (.node (o22 P) (.node (o38 P) (.node (o70 P) (lf (o134 P)) .nil) (.node (o102 P) (lf (o166 P)) .nil)) (.node (o54 P) (.node (o86 P) (lf (o150 P)) .nil) (lf (o118 P)))) (.node (o30 P) (.node (o46 P) (.node (o78 P) (lf (o142 P)) .nil) (.node (o110 P) (lf (o174 P)) .nil)) (.node (o62 P) (.node (o94 P) (lf (o158 P)) .nil) (lf (o126 P))))))))
noncomputable def S3 (w : World) (os : OsState) : SharedT := ⟨t3 w.params, 179, {}, #[], {}, 411, os⟩
noncomputable def v4_3 (P : Params) : Obj := ⟨(.type "dict"), none, (.dict #[en P s0 165 (.str s298 368), q_0 P, q_1 P, q_2 P, q_3 P, q_4 P, q_5 P, q_6 P, q_7 P, q_8 P, q_9 P, q_10 P, q_11 P, q_12 P, q_13 P, q_14 P, q_15 P, q_16 P, q_17 P, q_18 P, q_19 P, q_20 P, q_21 P, q_22 P, q_23 P, q_24 P, q_25 P, q_26 P, q_27 P, q_28 P, q_29 P, q_30 P, q_31 P, q_32 P, q_33 P, q_34 P, q_35 P, q_36 P, q_37 P, q_38 P, q_39 P, q_40 P, q_41 P, q_42 P, q_43 P, q_44 P, q_45 P, q_46 P, q_47 P] 49), #[]⟩
noncomputable def v4_12 (P : Params) : Obj := ⟨.none, none, (.fields #[(.int 1 0), (.int 0 0), (.ref 20), (.int 5 0), (.int 0 0), (.ref 27), (.int 9 0), (.int 0 0), (.ref 32), (.int 25 0), (.int 0 0), (.ref 39), (.int 30 0), (.int 0 0), (.ref 44), (.int 36 0), (.int 0 0), (.ref 51), (.int 38 0), (.int 0 0), (.ref 64), (.int 48 0), (.int 0 0), (.ref 86), (.int 52 0), (.int 0 0), (.ref 93), (.int 56 0), (.int 0 0), (.ref 100), (.int 66 0), (.int 0 0), (.ref 107), (.int 70 0), (.int 0 0), (.ref 114), (.int 72 0), (.int 0 0), (.ref 121), (.int 74 0), (.int 0 0), (.ref 128), (.int 78 0), (.int 0 0), (.ref 135), (.int 83 0), (.int 0 0), (.ref 142), (.int 89 0), (.int 0 0), (.ref 149), (.int 103 0), (.int 0 0), (.ref 156), (.int 114 0), (.int 0 0), (.ref 163), (.int 122 0), (.int 0 0), (.ref 170), (.int 127 0), (.int 0 0), (.ref 177), (.int 136 0), (.int 0 0), (.ref 184), (.int 141 0), (.int 0 0), (.ref 191), (.int 148 0), (.int 0 0), (.ref 198), (.int 156 0), (.int 0 0), (.ref 205), (.int 163 0), (.int 0 0), (.ref 212), (.int 183 0), (.int 0 0), (.ref 219), (.int 190 0), (.int 0 0), (.ref 224), (.int 194 0), (.int 0 0), (.ref 232), (.int 196 0), (.int 0 0), (.ref 239), (.int 201 0), (.int 0 0), (.ref 246), (.int 205 0), (.int 0 0), (.ref 253), (.int 215 0), (.int 0 0), (.ref 260)]), #[]⟩
noncomputable def t4 (P : Params) : BT := (.node (o0 P) (.node (o1 P) (.node (v4_3 P) (.node (o7 P) (.node (o15 P) (.node (o31 P) (.node (o63 P) (.node (o127 P) (lf (o255 P)) .nil) (lf (o191 P))) (.node (o95 P) (lf (o159 P)) (lf (o223 P)))) (.node (o47 P) (.node (o79 P) (lf (o143 P)) (lf (o207 P))) (.node (o111 P) (lf (o175 P)) (lf (o239 P))))) (.node (o23 P) (.node (o39 P) (.node (o71 P) (lf (o135 P)) (lf (o199 P))) (.node (o103 P) (lf (o167 P)) (lf (o231 P)))) (.node (o55 P) (.node (o87 P) (lf (o151 P)) (lf (o215 P))) (.node (o119 P) (lf (o183 P)) (lf (o247 P)))))) (.node (o11 P) (.node (o19 P) (.node (o35 P) (.node (o67 P) (.node (o131 P) (lf (o259 P)) .nil) (lf (o195 P))) (.node (o99 P) (lf (o163 P)) (lf (o227 P)))) (.node (o51 P) (.node (o83 P) (lf (o147 P)) (lf (o211 P))) (.node (o115 P) (lf (o179 P)) (lf (o243 P))))) (.node (o27 P) (.node (o43 P) (.node (o75 P) (lf (o139 P)) (lf (o203 P))) (.node (o107 P) (lf (o171 P)) (lf (o235 P)))) (.node (o59 P) (.node (o91 P) (lf (o155 P)) (lf (o219 P))) (.node (o123 P) (lf (o187 P)) (lf (o251 P))))))) (.node (o5 P) (.node (o9 P) (.node (o17 P) (.node (o33 P) (.node (o65 P) (.node (o129 P) (lf (o257 P)) .nil) (lf (o193 P))) (.node (o97 P) (lf (o161 P)) (lf (o225 P)))) (.node (o49 P) (.node (o81 P) (lf (o145 P)) (lf (o209 P))) (.node (o113 P) (lf (o177 P)) (lf (o241 P))))) (.node (o25 P) (.node (o41 P) (.node (o73 P) (lf (o137 P)) (lf (o201 P))) (.node (o105 P) (lf (o169 P)) (lf (o233 P)))) (.node (o57 P) (.node (o89 P) (lf (o153 P)) (lf (o217 P))) (.node (o121 P) (lf (o185 P)) (lf (o249 P)))))) (.node (o13 P) (.node (o21 P) (.node (o37 P) (.node (o69 P) (.node (o133 P) (lf (o261 P)) .nil) (lf (o197 P))) (.node (o101 P) (lf (o165 P)) (lf (o229 P)))) (.node (o53 P) (.node (o85 P) (lf (o149 P)) (lf (o213 P))) (.node (o117 P) (lf (o181 P)) (lf (o245 P))))) (.node (o29 P) (.node (o45 P) (.node (o77 P) (lf (o141 P)) (lf (o205 P))) (.node (o109 P) (lf (o173 P)) (lf (o237 P)))) (.node (o61 P) (.node (o93 P) (lf (o157 P)) (lf (o221 P))) (.node (o125 P) (lf (o189 P)) (lf (o253 P)))))))) (.node (o2 P) (.node (o4 P) (.node (o8 P) (.node (o16 P) (.node (o32 P) (.node (o64 P) (.node (o128 P) (lf (o256 P)) .nil) (lf (o192 P))) (.node (o96 P) (lf (o160 P)) (lf (o224 P)))) (.node (o48 P) (.node (o80 P) (lf (o144 P)) (lf (o208 P))) (.node (o112 P) (lf (o176 P)) (lf (o240 P))))) (.node (o24 P) (.node (o40 P) (.node (o72 P) (lf (o136 P)) (lf (o200 P))) (.node (o104 P) (lf (o168 P)) (lf (o232 P)))) (.node (o56 P) (.node (o88 P) (lf (o152 P)) (lf (o216 P))) (.node (o120 P) (lf (o184 P)) (lf (o248 P)))))) (.node (v4_12 P) (.node (o20 P) (.node (o36 P) (.node (o68 P) (.node (o132 P) (lf (o260 P)) .nil) (lf (o196 P))) (.node (o100 P) (lf (o164 P)) (lf (o228 P)))) (.node (o52 P) (.node (o84 P) (lf (o148 P)) (lf (o212 P))) (.node (o116 P) (lf (o180 P)) (lf (o244 P))))) (.node (o28 P) (.node (o44 P) (.node (o76 P) (lf (o140 P)) (lf (o204 P))) (.node (o108 P) (lf (o172 P)) (lf (o236 P)))) (.node (o60 P) (.node (o92 P) (lf (o156 P)) (lf (o220 P))) (.node (o124 P) (lf (o188 P)) (lf (o252 P))))))) (.node (o6 P) (.node (o10 P) (.node (o18 P) (.node (o34 P) (.node (o66 P) (.node (o130 P) (lf (o258 P)) .nil) (lf (o194 P))) (.node (o98 P) (lf (o162 P)) (lf (o226 P)))) (.node (o50 P) (.node (o82 P) (lf (o146 P)) (lf (o210 P))) (.node (o114 P) (lf (o178 P)) (lf (o242 P))))) (.node (o26 P) (.node (o42 P) (.node (o74 P) (lf (o138 P)) (lf (o202 P))) (.node (o106 P) (lf (o170 P)) (lf (o234 P)))) (.node (o58 P) (.node (o90 P) (lf (o154 P)) (lf (o218 P))) (.node (o122 P) (lf (o186 P)) (lf (o250 P)))))) (.node (o14 P) (.node (o22 P) (.node (o38 P) (.node (o70 P) (lf (o134 P)) (lf (o198 P))) (.node (o102 P) (lf (o166 P)) (lf (o230 P)))) (.node (o54 P) (.node (o86 P) (lf (o150 P)) (lf (o214 P))) (.node (o118 P) (lf (o182 P)) (lf (o246 P))))) (.node (o30 P) (.node (o46 P) (.node (o78 P) (lf (o142 P)) (lf (o206 P))) (.node (o110 P) (lf (o174 P)) (lf (o238 P)))) (.node (o62 P) (.node (o94 P) (lf (o158 P)) (lf (o222 P))) (.node (o126 P) (lf (o190 P)) (lf (o254 P)))))))))
noncomputable def S4 (w : World) (os : OsState) : SharedT := ⟨t4 w.params, 262, {}, #[], {}, 532, os⟩
noncomputable def v5_3 (P : Params) : Obj := ⟨(.type "dict"), none, (.dict #[q_87 P, q_0 P, q_1 P, q_2 P, q_3 P, q_4 P, q_5 P, q_6 P, q_7 P, q_8 P, q_9 P, q_10 P, q_11 P, q_12 P, q_13 P, q_14 P, q_15 P, q_16 P, q_17 P, q_18 P, q_19 P, q_20 P, q_21 P, q_22 P, q_23 P, q_24 P, q_25 P, q_26 P, q_27 P, q_28 P, q_29 P, q_30 P, q_31 P, q_32 P, q_33 P, q_34 P, q_35 P, q_36 P, q_37 P, q_38 P, q_39 P, q_40 P, q_41 P, q_42 P, q_43 P, q_44 P, q_45 P, q_46 P, q_47 P, q_48 P, q_49 P, q_50 P, q_51 P] 53), #[]⟩
noncomputable def v5_12 (P : Params) : Obj := ⟨.none, none, (.fields #[(.int 1 0), (.int 0 0), (.ref 20), (.int 5 0), (.int 0 0), (.ref 27), (.int 9 0), (.int 0 0), (.ref 32), (.int 25 0), (.int 0 0), (.ref 39), (.int 30 0), (.int 0 0), (.ref 44), (.int 36 0), (.int 0 0), (.ref 51), (.int 38 0), (.int 0 0), (.ref 64), (.int 48 0), (.int 0 0), (.ref 86), (.int 52 0), (.int 0 0), (.ref 93), (.int 56 0), (.int 0 0), (.ref 100), (.int 66 0), (.int 0 0), (.ref 107), (.int 70 0), (.int 0 0), (.ref 114), (.int 72 0), (.int 0 0), (.ref 121), (.int 74 0), (.int 0 0), (.ref 128), (.int 78 0), (.int 0 0), (.ref 135), (.int 83 0), (.int 0 0), (.ref 142), (.int 89 0), (.int 0 0), (.ref 149), (.int 103 0), (.int 0 0), (.ref 156), (.int 114 0), (.int 0 0), (.ref 163), (.int 122 0), (.int 0 0), (.ref 170), (.int 127 0), (.int 0 0), (.ref 177), (.int 136 0), (.int 0 0), (.ref 184), (.int 141 0), (.int 0 0), (.ref 191), (.int 148 0), (.int 0 0), (.ref 198), (.int 156 0), (.int 0 0), (.ref 205), (.int 163 0), (.int 0 0), (.ref 212), (.int 183 0), (.int 0 0), (.ref 219), (.int 190 0), (.int 0 0), (.ref 224), (.int 194 0), (.int 0 0), (.ref 232), (.int 196 0), (.int 0 0), (.ref 239), (.int 201 0), (.int 0 0), (.ref 246), (.int 205 0), (.int 0 0), (.ref 253), (.int 215 0), (.int 0 0), (.ref 260), (.int 225 0), (.int 0 0), (.ref 267), (.int 259 0), (.int 0 0), (.ref 274), (.int 278 0), (.int 0 0), (.ref 281)]), #[]⟩
noncomputable def t5 (P : Params) : BT := (.node (o0 P) (.node (o1 P) (.node (v5_3 P) (.node (o7 P) (.node (o15 P) (.node (o31 P) (.node (o63 P) (.node (o127 P) (lf (o255 P)) .nil) (lf (o191 P))) (.node (o95 P) (.node (o159 P) (lf (o287 P)) .nil) (lf (o223 P)))) (.node (o47 P) (.node (o79 P) (.node (o143 P) (lf (o271 P)) .nil) (lf (o207 P))) (.node (o111 P) (lf (o175 P)) (lf (o239 P))))) (.node (o23 P) (.node (o39 P) (.node (o71 P) (.node (o135 P) (lf (o263 P)) .nil) (lf (o199 P))) (.node (o103 P) (.node (o167 P) (lf (o295 P)) .nil) (lf (o231 P)))) (.node (o55 P) (.node (o87 P) (.node (o151 P) (lf (o279 P)) .nil) (lf (o215 P))) (.node (o119 P) (lf (o183 P)) (lf (o247 P)))))) (.node (o11 P) (.node (o19 P) (.node (o35 P) (.node (o67 P) (.node (o131 P) (lf (o259 P)) .nil) (lf (o195 P))) (.node (o99 P) (.node (o163 P) (lf (o291 P)) .nil) (lf (o227 P)))) (.node (o51 P) (.node (o83 P) (.node (o147 P) (lf (o275 P)) .nil) (lf (o211 P))) (.node (o115 P) (lf (o179 P)) (lf (o243 P))))) (.node (o27 P) (.node (o43 P) (.node (o75 P) (.node (o139 P) (lf (o267 P)) .nil) (lf (o203 P))) (.node (o107 P) (lf (o171 P)) (lf (o235 P)))) (.node (o59 P) (.node (o91 P) (.node (o155 P) (lf (o283 P)) .nil) (lf (o219 P))) (.node (o123 P) (lf (o187 P)) (lf (o251 P))))))) (.node (o5 P) (.node (o9 P) (.node (o17 P) (.node (o33 P) (.node (o65 P) (.node (o129 P) (lf (o257 P)) .nil) (lf (o193 P))) (.node (o97 P) (.node (o161 P) (lf (o289 P)) .nil) (lf (o225 P)))) (.node (o49 P) (.node (o81 P) (.node (o145 P) (lf (o273 P)) .nil) (lf (o209 P))) (.node (o113 P) (lf (o177 P)) (lf (o241 P))))) (.node (o25 P) (.node (o41 P) (.node (o73 P) (.node (o137 P) (lf (o265 P)) .nil) (lf (o201 P))) (.node (o105 P) (lf (o169 P)) (lf (o233 P)))) (.node (o57 P) (.node (o89 P) (.node (o153 P) (lf (o281 P)) .nil) (lf (o217 P))) (.node (o121 P) (lf (o185 P)) (lf (o249 P)))))) (.node (o13 P) (.node (o21 P) (.node (o37 P) (.node (o69 P) (.node (o133 P) (lf (o261 P)) .nil) (lf (o197 P))) (.node (o101 P) (.node (o165 P) (lf (o293 P)) .nil) (lf (o229 P)))) (.node (o53 P) (.node (o85 P) (.node (o149 P) (lf (o277 P)) .nil) (lf (o213 P))) (.node (o117 P) (lf (o181 P)) (lf (o245 P))))) (.node (o29 P) (.node (o45 P) (.node (o77 P) (.node (o141 P) (lf (o269 P)) .nil) (lf (o205 P))) (.node (o109 P) (lf (o173 P)) (lf (o237 P)))) (.node (o61 P) (.node (o93 P) (.node (o157 P) (lf (o285 P)) .nil) (lf (o221 P))) (.node (o125 P) (lf (o189 P)) (lf (o253 P)))))))) (.node (o2 P) (.node (o4 P) (.node (o8 P) (.node (o16 P) (.node (o32 P) (.node (o64 P) (.node (o128 P) (lf (o256 P)) .nil) (lf (o192 P))) (.node (o96 P) (.node (o160 P) (lf (o288 P)) .nil) (lf (o224 P)))) (.node (o48 P) (.node (o80 P) (.node (o144 P) (lf (o272 P)) .nil) (lf (o208 P))) (.node (o112 P) (lf (o176 P)) (lf (o240 P))))) (.node (o24 P) (.node (o40 P) (.node (o72 P) (.node (o136 P) (lf (o264 P)) .nil) (lf (o200 P))) (.node (o104 P) (.node (o168 P) (lf (o296 P)) .nil) (lf (o232 P)))) (.node (o56 P) (.node (o88 P) (.node (o152 P) (lf (o280 P)) .nil) (lf (o216 P))) (.node (o120 P) (lf (o184 P)) (lf (o248 P)))))) (.node (v5_12 P) (.node (o20 P) (.node (o36 P) (.node (o68 P) (.node (o132 P) (lf (o260 P)) .nil) (lf (o196 P))) (.node (o100 P) (.node (o164 P) (lf (o292 P)) .nil) (lf (o228 P)))) (.node (o52 P) (.node (o84 P) (.node (o148 P) (lf (o276 P)) .nil) (lf (o212 P))) (.node (o116 P) (lf (o180 P)) (lf (o244 P))))) (.node (o28 P) (.node (o44 P) (.node (o76 P) (.node (o140 P) (lf (o268 P)) .nil) (lf (o204 P))) (.node (o108 P) (lf (o172 P)) (lf (o236 P)))) (.node (o60 P) (.node (o92 P) (.node (o156 P) (lf (o284 P)) .nil) (lf (o220 P))) (.node (o124 P) (lf (o188 P)) (lf (o252 P))))))) (.node (o6 P) (.node (o10 P) (.node (o18 P) (.node (o34 P) (.node (o66 P) (.node (o130 P) (lf (o258 P)) .nil) (lf (o194 P))) (.node (o98 P) (.node (o162 P) (lf (o290 P)) .nil) (lf (o226 P)))) (.node (o50 P) (.node (o82 P) (.node (o146 P) (lf (o274 P)) .nil) (lf (o210 P))) (.node (o114 P) (lf (o178 P)) (lf (o242 P))))) (.node (o26 P) (.node (o42 P) (.node (o74 P) (.node (o138 P) (lf (o266 P)) .nil) (lf (o202 P))) (.node (o106 P) (lf (o170 P)) (lf (o234 P)))) (.node (o58 P) (.node (o90 P) (.node (o154 P) (lf (o282 P)) .nil) (lf (o218 P))) (.node (o122 P) (lf (o186 P)) (lf (o250 P)))))) (.node (o14 P) (.node (o22 P) (.node (o38 P) (.node (o70 P) (.node (o134 P) (lf (o262 P)) .nil) (lf (o198 P))) (.node (o102 P) (.node (o166 P) (lf (o294 P)) .nil) (lf (o230 P)))) (.node (o54 P) (.node (o86 P) (.node (o150 P) (lf (o278 P)) .nil) (lf (o214 P))) (.node (o118 P) (lf (o182 P)) (lf (o246 P))))) (.node (o30 P) (.node (o46 P) (.node (o78 P) (.node (o142 P) (lf (o270 P)) .nil) (lf (o206 P))) (.node (o110 P) (lf (o174 P)) (lf (o238 P)))) (.node (o62 P) (.node (o94 P) (.node (o158 P) (lf (o286 P)) .nil) (lf (o222 P))) (.node (o126 P) (lf (o190 P)) (lf (o254 P)))))))))
noncomputable def S5 (w : World) (os : OsState) : SharedT := ⟨t5 w.params, 297, {}, #[], {}, 596, os⟩
noncomputable def v6_3 (P : Params) : Obj := ⟨(.type "dict"), none, (.dict #[q_87 P, q_0 P, q_1 P, q_2 P, q_3 P, q_4 P, q_5 P, q_6 P, q_7 P, q_8 P, q_9 P, q_10 P, q_11 P, q_12 P, q_13 P, q_14 P, q_15 P, q_16 P, q_17 P, q_18 P, q_19 P, q_20 P, q_21 P, q_22 P, q_23 P, q_24 P, q_25 P, q_26 P, q_27 P, q_28 P, q_29 P, q_30 P, q_31 P, q_32 P, q_33 P, q_34 P, q_35 P, q_36 P, q_37 P, q_38 P, q_39 P, q_40 P, q_41 P, q_42 P, q_43 P, q_44 P, q_45 P, q_46 P, q_47 P, q_48 P, q_49 P, q_50 P, q_51 P, q_52 P] 54), #[]⟩
noncomputable def v6_12 (P : Params) : Obj := ⟨.none, none, (.fields #[(.int 1 0), (.int 0 0), (.ref 20), (.int 5 0), (.int 0 0), (.ref 27), (.int 9 0), (.int 0 0), (.ref 32), (.int 25 0), (.int 0 0), (.ref 39), (.int 30 0), (.int 0 0), (.ref 44), (.int 36 0), (.int 0 0), (.ref 51), (.int 38 0), (.int 0 0), (.ref 64), (.int 48 0), (.int 0 0), (.ref 86), (.int 52 0), (.int 0 0), (.ref 93), (.int 56 0), (.int 0 0), (.ref 100), (.int 66 0), (.int 0 0), (.ref 107), (.int 70 0), (.int 0 0), (.ref 114), (.int 72 0), (.int 0 0), (.ref 121), (.int 74 0), (.int 0 0), (.ref 128), (.int 78 0), (.int 0 0), (.ref 135), (.int 83 0), (.int 0 0), (.ref 142), (.int 89 0), (.int 0 0), (.ref 149), (.int 103 0), (.int 0 0), (.ref 156), (.int 114 0), (.int 0 0), (.ref 163), (.int 122 0), (.int 0 0), (.ref 170), (.int 127 0), (.int 0 0), (.ref 177), (.int 136 0), (.int 0 0), (.ref 184), (.int 141 0), (.int 0 0), (.ref 191), (.int 148 0), (.int 0 0), (.ref 198), (.int 156 0), (.int 0 0), (.ref 205), (.int 163 0), (.int 0 0), (.ref 212), (.int 183 0), (.int 0 0), (.ref 219), (.int 190 0), (.int 0 0), (.ref 224), (.int 194 0), (.int 0 0), (.ref 232), (.int 196 0), (.int 0 0), (.ref 239), (.int 201 0), (.int 0 0), (.ref 246), (.int 205 0), (.int 0 0), (.ref 253), (.int 215 0), (.int 0 0), (.ref 260), (.int 225 0), (.int 0 0), (.ref 267), (.int 259 0), (.int 0 0), (.ref 274), (.int 278 0), (.int 0 0), (.ref 281), (.int 283 0), (.int 0 0), (.ref 302)]), #[]⟩
noncomputable def t6 (P : Params) : BT := (.node (o0 P) (.node (o1 P) (.node (v6_3 P) (.node (o7 P) (.node (o15 P) (.node (o31 P) (.node (o63 P) (.node (o127 P) (lf (o255 P)) .nil) (.node (o191 P) (lf (o319 P)) .nil)) (.node (o95 P) (.node (o159 P) (lf (o287 P)) .nil) (lf (o223 P)))) (.node (o47 P) (.node (o79 P) (.node (o143 P) (lf (o271 P)) .nil) (lf (o207 P))) (.node (o111 P) (.node (o175 P) (lf (o303 P)) .nil) (lf (o239 P))))) (.node (o23 P) (.node (o39 P) (.node (o71 P) (.node (o135 P) (lf (o263 P)) .nil) (lf (o199 P))) (.node (o103 P) (.node (o167 P) (lf (o295 P)) .nil) (lf (o231 P)))) (.node (o55 P) (.node (o87 P) (.node (o151 P) (lf (o279 P)) .nil) (lf (o215 P))) (.node (o119 P) (.node (o183 P) (lf (o311 P)) .nil) (lf (o247 P)))))) (.node (o11 P) (.node (o19 P) (.node (o35 P) (.node (o67 P) (.node (o131 P) (lf (o259 P)) .nil) (.node (o195 P) (lf (o323 P)) .nil)) (.node (o99 P) (.node (o163 P) (lf (o291 P)) .nil) (lf (o227 P)))) (.node (o51 P) (.node (o83 P) (.node (o147 P) (lf (o275 P)) .nil) (lf (o211 P))) (.node (o115 P) (.node (o179 P) (lf (o307 P)) .nil) (lf (o243 P))))) (.node (o27 P) (.node (o43 P) (.node (o75 P) (.node (o139 P) (lf (o267 P)) .nil) (lf (o203 P))) (.node (o107 P) (.node (o171 P) (lf (o299 P)) .nil) (lf (o235 P)))) (.node (o59 P) (.node (o91 P) (.node (o155 P) (lf (o283 P)) .nil) (lf (o219 P))) (.node (o123 P) (.node (o187 P) (lf (o315 P)) .nil) (lf (o251 P))))))) (.node (o5 P) (.node (o9 P) (.node (o17 P) (.node (o33 P) (.node (o65 P) (.node (o129 P) (lf (o257 P)) .nil) (.node (o193 P) (lf (o321 P)) .nil)) (.node (o97 P) (.node (o161 P) (lf (o289 P)) .nil) (lf (o225 P)))) (.node (o49 P) (.node (o81 P) (.node (o145 P) (lf (o273 P)) .nil) (lf (o209 P))) (.node (o113 P) (.node (o177 P) (lf (o305 P)) .nil) (lf (o241 P))))) (.node (o25 P) (.node (o41 P) (.node (o73 P) (.node (o137 P) (lf (o265 P)) .nil) (lf (o201 P))) (.node (o105 P) (.node (o169 P) (lf (o297 P)) .nil) (lf (o233 P)))) (.node (o57 P) (.node (o89 P) (.node (o153 P) (lf (o281 P)) .nil) (lf (o217 P))) (.node (o121 P) (.node (o185 P) (lf (o313 P)) .nil) (lf (o249 P)))))) (.node (o13 P) (.node (o21 P) (.node (o37 P) (.node (o69 P) (.node (o133 P) (lf (o261 P)) .nil) (.node (o197 P) (lf (o325 P)) .nil)) (.node (o101 P) (.node (o165 P) (lf (o293 P)) .nil) (lf (o229 P)))) (.node (o53 P) (.node (o85 P) (.node (o149 P) (lf (o277 P)) .nil) (lf (o213 P))) (.node (o117 P) (.node (o181 P) (lf (o309 P)) .nil) (lf (o245 P))))) (.node (o29 P) (.node (o45 P) (.node (o77 P) (.node (o141 P) (lf (o269 P)) .nil) (lf (o205 P))) (.node (o109 P) (.node (o173 P) (lf (o301 P)) .nil) (lf (o237 P)))) (.node (o61 P) (.node (o93 P) (.node (o157 P) (lf (o285 P)) .nil) (lf (o221 P))) (.node (o125 P) (.node (o189 P) (lf (o317 P)) .nil) (lf (o253 P)))))))) (.node (o2 P) (.node (o4 P) (.node (o8 P) (.node (o16 P) (.node (o32 P) (.node (o64 P) (.node (o128 P) (lf (o256 P)) .nil) (.node (o192 P) (lf (o320 P)) .nil)) (.node (o96 P) (.node (o160 P) (lf (o288 P)) .nil) (lf (o224 P)))) (.node (o48 P) (.node (o80 P) (.node (o144 P) (lf (o272 P)) .nil) (lf (o208 P))) (.node (o112 P) (.node (o176 P) (lf (o304 P)) .nil) (lf (o240 P))))) (.node (o24 P) (.node (o40 P) (.node (o72 P) (.node (o136 P) (lf (o264 P)) .nil) (lf (o200 P))) (.node (o104 P) (.node (o168 P) (lf (o296 P)) .nil) (lf (o232 P)))) (.node (o56 P) (.node (o88 P) (.node (o152 P) (lf (o280 P)) .nil) (lf (o216 P))) (.node (o120 P) (.node (o184 P) (lf (o312 P)) .nil) (lf (o248 P)))))) (.node (v6_12 P) (.node (o20 P) (.node (o36 P) (.node (o68 P) (.node (o132 P) (lf (o260 P)) .nil) (.node (o196 P) (lf (o324 P)) .nil)) (.node (o100 P) (.node (o164 P) (lf (o292 P)) .nil) (lf (o228 P)))) (.node (o52 P) (.node (o84 P) (.node (o148 P) (lf (o276 P)) .nil) (lf (o212 P))) (.node (o116 P) (.node (o180 P) (lf (o308 P)) .nil) (lf (o244 P))))) (.node (o28 P) (.node (o44 P) (.node (o76 P) (.node (o140 P) (lf (o268 P)) .nil) (lf (o204 P))) (.node (o108 P) (.node (o172 P) (lf (o300 P)) .nil) (lf (o236 P)))) (.node (o60 P) (.node (o92 P) (.node (o156 P) (lf (o284 P)) .nil) (lf (o220 P))) (.node (o124 P) (.node (o188 P) (lf (o316 P)) .nil) (lf (o252 P))))))) (.node (o6 P) (.node (o10 P) (.node (o18 P) (.node (o34 P) (.node (o66 P) (.node (o130 P) (lf (o258 P)) .nil) (.node (o194 P) (lf (o322 P)) .nil)) (.node (o98 P) (.node (o162 P) (lf (o290 P)) .nil) (lf (o226 P)))) (.node (o50 P) (.node (o82 P) (.node (o146 P) (lf (o274 P)) .nil) (lf (o210 P))) (.node (o114 P) (.node (o178 P) (lf (o306 P)) .nil) (lf (o242 P))))) (.node (o26 P) (.node (o42 P) (.node (o74 P) (.node (o138 P) (lf (o266 P)) .nil) (lf (o202 P))) (.node (o106 P) (.node (o170 P) (lf (o298 P)) .nil) (lf (o234 P)))) (.node (o58 P) (.node (o90 P) (.node (o154 P) (lf (o282 P)) .nil) (lf (o218 P))) (.node (o122 P) (.node (o186 P) (lf (o314 P)) .nil) (lf (o250 P)))))) (.node (o14 P) (.node (o22 P) (.node (o38 P) (.node (o70 P) (.node (o134 P) (lf (o262 P)) .nil) (lf (o198 P))) (.node (o102 P) (.node (o166 P) (lf (o294 P)) .nil) (lf (o230 P)))) (.node (o54 P) (.node (o86 P) (.node (o150 P) (lf (o278 P)) .nil) (lf (o214 P))) (.node (o118 P) (.node (o182 P) (lf (o310 P)) .nil) (lf (o246 P))))) (.node (o30 P) (.node (o46 P) (.node (o78 P) (.node (o142 P) (lf (o270 P)) .nil) (lf (o206 P))) (.node (o110 P) (.node (o174 P) (lf (o302 P)) .nil) (lf (o238 P)))) (.node (o62 P) (.node (o94 P) (.node (o158 P) (lf (o286 P)) .nil) (lf (o222 P))) (.node (o126 P) (.node (o190 P) (lf (o318 P)) .nil) (lf (o254 P)))))))))
noncomputable def S6 (w : World) (os : OsState) : SharedT := ⟨t6 w.params, 326, {}, #[], {}, 638, os⟩
noncomputable def v7_3 (P : Params) : Obj := ⟨(.type "dict"), none, (.dict #[q_87 P, q_0 P, q_1 P, q_2 P, q_3 P, q_4 P, q_5 P, q_6 P, q_7 P, q_8 P, q_9 P, q_10 P, q_11 P, q_12 P, q_13 P, q_14 P, q_15 P, q_16 P, q_17 P, q_18 P, q_19 P, q_20 P, q_21 P, q_22 P, q_23 P, q_24 P, q_25 P, q_26 P, q_27 P, q_28 P, q_29 P, q_30 P, q_31 P, q_32 P, q_33 P, q_34 P, q_35 P, q_36 P, q_37 P, q_38 P, q_39 P, q_40 P, q_41 P, q_42 P, q_43 P, q_44 P, q_45 P, q_46 P, q_47 P, q_48 P, q_49 P, q_50 P, q_51 P, q_52 P, q_53 P, q_54 P, q_55 P, q_56 P, q_57 P, q_58 P, q_59 P] 61), #[]⟩
noncomputable def v7_12 (P : Params) : Obj := ⟨.none, none, (.fields #[(.int 1 0), (.int 0 0), (.ref 20), (.int 5 0), (.int 0 0), (.ref 27), (.int 9 0), (.int 0 0), (.ref 32), (.int 25 0), (.int 0 0), (.ref 39), (.int 30 0), (.int 0 0), (.ref 44), (.int 36 0), (.int 0 0), (.ref 51), (.int 38 0), (.int 0 0), (.ref 64), (.int 48 0), (.int 0 0), (.ref 86), (.int 52 0), (.int 0 0), (.ref 93), (.int 56 0), (.int 0 0), (.ref 100), (.int 66 0), (.int 0 0), (.ref 107), (.int 70 0), (.int 0 0), (.ref 114), (.int 72 0), (.int 0 0), (.ref 121), (.int 74 0), (.int 0 0), (.ref 128), (.int 78 0), (.int 0 0), (.ref 135), (.int 83 0), (.int 0 0), (.ref 142), (.int 89 0), (.int 0 0), (.ref 149), (.int 103 0), (.int 0 0), (.ref 156), (.int 114 0), (.int 0 0), (.ref 163), (.int 122 0), (.int 0 0), (.ref 170), (.int 127 0), (.int 0 0), (.ref 177), (.int 136 0), (.int 0 0), (.ref 184), (.int 141 0), (.int 0 0), (.ref 191), (.int 148 0), (.int 0 0), (.ref 198), (.int 156 0), (.int 0 0), (.ref 205), (.int 163 0), (.int 0 0), (.ref 212), (.int 183 0), (.int 0 0), (.ref 219), (.int 190 0), (.int 0 0), (.ref 224), (.int 194 0), (.int 0 0), (.ref 232), (.int 196 0), (.int 0 0), (.ref 239), (.int 201 0), (.int 0 0), (.ref 246), (.int 205 0), (.int 0 0), (.ref 253), (.int 215 0), (.int 0 0), (.ref 260), (.int 225 0), (.int 0 0), (.ref 267), (.int 259 0), (.int 0 0), (.ref 274), (.int 278 0), (.int 0 0), (.ref 281), (.int 283 0), (.int 0 0), (.ref 302), (.int 294 0), (.int 0 0), (.ref 331), (.int 300 0), (.int 0 0), (.ref 352), (.int 304 0), (.int 0 0), (.ref 359), (.int 306 0), (.int 0 0), (.ref 366), (.int 308 0), (.int 0 0), (.ref 373), (.int 312 0), (.int 0 0), (.ref 380), (.int 323 0), (.int 0 0), (.ref 387)]), #[]⟩
noncomputable def t7 (P : Params) : BT := (.node (o0 P) (.node (o1 P) (.node (v7_3 P) (.node (o7 P) (.node (o15 P) (.node (o31 P) (.node (o63 P) (.node (o127 P) (lf (o255 P)) (lf (o383 P))) (.node (o191 P) (lf (o319 P)) .nil)) (.node (o95 P) (.node (o159 P) (lf (o287 P)) .nil) (.node (o223 P) (lf (o351 P)) .nil))) (.node (o47 P) (.node (o79 P) (.node (o143 P) (lf (o271 P)) .nil) (.node (o207 P) (lf (o335 P)) .nil)) (.node (o111 P) (.node (o175 P) (lf (o303 P)) .nil) (.node (o239 P) (lf (o367 P)) .nil)))) (.node (o23 P) (.node (o39 P) (.node (o71 P) (.node (o135 P) (lf (o263 P)) .nil) (.node (o199 P) (lf (o327 P)) .nil)) (.node (o103 P) (.node (o167 P) (lf (o295 P)) .nil) (.node (o231 P) (lf (o359 P)) .nil))) (.node (o55 P) (.node (o87 P) (.node (o151 P) (lf (o279 P)) .nil) (.node (o215 P) (lf (o343 P)) .nil)) (.node (o119 P) (.node (o183 P) (lf (o311 P)) .nil) (.node (o247 P) (lf (o375 P)) .nil))))) (.node (o11 P) (.node (o19 P) (.node (o35 P) (.node (o67 P) (.node (o131 P) (lf (o259 P)) (lf (o387 P))) (.node (o195 P) (lf (o323 P)) .nil)) (.node (o99 P) (.node (o163 P) (lf (o291 P)) .nil) (.node (o227 P) (lf (o355 P)) .nil))) (.node (o51 P) (.node (o83 P) (.node (o147 P) (lf (o275 P)) .nil) (.node (o211 P) (lf (o339 P)) .nil)) (.node (o115 P) (.node (o179 P) (lf (o307 P)) .nil) (.node (o243 P) (lf (o371 P)) .nil)))) (.node (o27 P) (.node (o43 P) (.node (o75 P) (.node (o139 P) (lf (o267 P)) .nil) (.node (o203 P) (lf (o331 P)) .nil)) (.node (o107 P) (.node (o171 P) (lf (o299 P)) .nil) (.node (o235 P) (lf (o363 P)) .nil))) (.node (o59 P) (.node (o91 P) (.node (o155 P) (lf (o283 P)) .nil) (.node (o219 P) (lf (o347 P)) .nil)) (.node (o123 P) (.node (o187 P) (lf (o315 P)) .nil) (.node (o251 P) (lf (o379 P)) .nil)))))) (.node (o5 P) (.node (o9 P) (.node (o17 P) (.node (o33 P) (.node (o65 P) (.node (o129 P) (lf (o257 P)) (lf (o385 P))) (.node (o193 P) (lf (o321 P)) .nil)) (.node (o97 P) (.node (o161 P) (lf (o289 P)) .nil) (.node (o225 P) (lf (o353 P)) .nil))) (.node (o49 P) (.node (o81 P) (.node (o145 P) (lf (o273 P)) .nil) (.node (o209 P) (lf (o337 P)) .nil)) (.node (o113 P) (.node (o177 P) (lf (o305 P)) .nil) (.node (o241 P) (lf (o369 P)) .nil)))) (.node (o25 P) (.node (o41 P) (.node (o73 P) (.node (o137 P) (lf (o265 P)) .nil) (.node (o201 P) (lf (o329 P)) .nil)) (.node (o105 P) (.node (o169 P) (lf (o297 P)) .nil) (.node (o233 P) (lf (o361 P)) .nil))) (.node (o57 P) (.node (o89 P) (.node (o153 P) (lf (o281 P)) .nil) (.node (o217 P) (lf (o345 P)) .nil)) (.node (o121 P) (.node (o185 P) (lf (o313 P)) .nil) (.node (o249 P) (lf (o377 P)) .nil))))) (.node (o13 P) (.node (o21 P) (.node (o37 P) (.node (o69 P) (.node (o133 P) (lf (o261 P)) .nil) (.node (o197 P) (lf (o325 P)) .nil)) (.node (o101 P) (.node (o165 P) (lf (o293 P)) .nil) (.node (o229 P) (lf (o357 P)) .nil))) (.node (o53 P) (.node (o85 P) (.node (o149 P) (lf (o277 P)) .nil) (.node (o213 P) (lf (o341 P)) .nil)) (.node (o117 P) (.node (o181 P) (lf (o309 P)) .nil) (.node (o245 P) (lf (o373 P)) .nil)))) (.node (o29 P) (.node (o45 P) (.node (o77 P) (.node (o141 P) (lf (o269 P)) .nil) (.node (o205 P) (lf (o333 P)) .nil)) (.node (o109 P) (.node (o173 P) (lf (o301 P)) .nil) (.node (o237 P) (lf (o365 P)) .nil))) (.node (o61 P) (.node (o93 P) (.node (o157 P) (lf (o285 P)) .nil) (.node (o221 P) (lf (o349 P)) .nil)) (.node (o125 P) (.node (o189 P) (lf (o317 P)) .nil) (.node (o253 P) (lf (o381 P)) .nil))))))) (.node (o2 P) (.node (o4 P) (.node (o8 P) (.node (o16 P) (.node (o32 P) (.node (o64 P) (.node (o128 P) (lf (o256 P)) (lf (o384 P))) (.node (o192 P) (lf (o320 P)) .nil)) (.node (o96 P) (.node (o160 P) (lf (o288 P)) .nil) (.node (o224 P) (lf (o352 P)) .nil))) (.node (o48 P) (.node (o80 P) (.node (o144 P) (lf (o272 P)) .nil) (.node (o208 P) (lf (o336 P)) .nil)) (.node (o112 P) (.node (o176 P) (lf (o304 P)) .nil) (.node (o240 P) (lf (o368 P)) .nil)))) (.node (o24 P) (.node (o40 P) (.node (o72 P) (.node (o136 P) (lf (o264 P)) .nil) (.node (o200 P) (lf (o328 P)) .nil)) (.node (o104 P) (.node (o168 P) (lf (o296 P)) .nil) (.node (o232 P) (lf (o360 P)) .nil))) (.node (o56 P) (.node (o88 P) (.node (o152 P) (lf (o280 P)) .nil) (.node (o216 P) (lf (o344 P)) .nil)) (.node (o120 P) (.node (o184 P) (lf (o312 P)) .nil) (.node (o248 P) (lf (o376 P)) .nil))))) (.node (v7_12 P) (.node (o20 P) (.node (o36 P) (.node (o68 P) (.node (o132 P) (lf (o260 P)) (lf (o388 P))) (.node (o196 P) (lf (o324 P)) .nil)) (.node (o100 P) (.node (o164 P) (lf (o292 P)) .nil) (.node (o228 P) (lf (o356 P)) .nil))) (.node (o52 P) (.node (o84 P) (.node (o148 P) (lf (o276 P)) .nil) (.node (o212 P) (lf (o340 P)) .nil)) (.node (o116 P) (.node (o180 P) (lf (o308 P)) .nil) (.node (o244 P) (lf (o372 P)) .nil)))) (.node (o28 P) (.node (o44 P) (.node (o76 P) (.node (o140 P) (lf (o268 P)) .nil) (.node (o204 P) (lf (o332 P)) .nil)) (.node (o108 P) (.node (o172 P) (lf (o300 P)) .nil) (.node (o236 P) (lf (o364 P)) .nil))) (.node (o60 P) (.node (o92 P) (.node (o156 P) (lf (o284 P)) .nil) (.node (o220 P) (lf (o348 P)) .nil)) (.node (o124 P) (.node (o188 P) (lf (o316 P)) .nil) (.node (o252 P) (lf (o380 P)) .nil)))))) (.node (o6 P) (.node (o10 P) (.node (o18 P) (.node (o34 P) (.node (o66 P) (.node (o130 P) (lf (o258 P)) (lf (o386 P))) (.node (o194 P) (lf (o322 P)) .nil)) (.node (o98 P) (.node (o162 P) (lf (o290 P)) .nil) (.node (o226 P) (lf (o354 P)) .nil))) (.node (o50 P) (.node (o82 P) (.node (o146 P) (lf (o274 P)) .nil) (.node (o210 P) (lf (o338 P)) .nil)) (.node (o114 P) (.node (o178 P) (lf (o306 P)) .nil) (.node (o242 P) (lf (o370 P)) .nil)))) (.node (o26 P) (.node (o42 P) (.node (o74 P) (.node (o138 P) (lf (o266 P)) .nil) (.node (o202 P) (lf (o330 P)) .nil)) (.node (o106 P) (.node (o170 P) (lf (o298 P)) .nil) (.node (o234 P) (lf (o362 P)) .nil))) (.node (o58 P) (.node (o90 P) (.node (o154 P) (lf (o282 P)) .nil) (.node (o218 P) (lf (o346 P)) .nil)) (.node (o122 P) (.node (o186 P) (lf (o314 P)) .nil) (.node (o250 P) (lf (o378 P)) .nil))))) (.node (o14 P) (.node (o22 P) (.node (o38 P) (.node (o70 P) (.node (o134 P) (lf (o262 P)) .nil) (.node (o198 P) (lf (o326 P)) .nil)) (.node (o102 P) (.node (o166 P) (lf (o294 P)) .nil) (.node (o230 P) (lf (o358 P)) .nil))) (.node (o54 P) (.node (o86 P) (.node (o150 P) (lf (o278 P)) .nil) (.node (o214 P) (lf (o342 P)) .nil)) (.node (o118 P) (.node (o182 P) (lf (o310 P)) .nil) (.node (o246 P) (lf (o374 P)) .nil)))) (.node (o30 P) (.node (o46 P) (.node (o78 P) (.node (o142 P) (lf (o270 P)) .nil) (.node (o206 P) (lf (o334 P)) .nil)) (.node (o110 P) (.node (o174 P) (lf (o302 P)) .nil) (.node (o238 P) (lf (o366 P)) .nil))) (.node (o62 P) (.node (o94 P) (.node (o158 P) (lf (o286 P)) .nil) (.node (o222 P) (lf (o350 P)) .nil)) (.node (o126 P) (.node (o190 P) (lf (o318 P)) .nil) (.node (o254 P) (lf (o382 P)) .nil))))))))
noncomputable def S7 (w : World) (os : OsState) : SharedT := ⟨t7 w.params, 389, {}, #[], {}, 712, os⟩
noncomputable def v8_3 (P : Params) : Obj := ⟨(.type "dict"), none, (.dict #[en P s0 165 (.str s340 726), q_0 P, q_1 P, q_2 P, q_3 P, q_4 P, q_5 P, q_6 P, q_7 P, q_8 P, q_9 P, q_10 P, q_11 P, q_12 P, q_13 P, q_14 P, q_15 P, q_16 P, q_17 P, q_18 P, q_19 P, q_20 P, q_21 P, q_22 P, q_23 P, q_24 P, q_25 P, q_26 P, q_27 P, q_28 P, q_29 P, q_30 P, q_31 P, q_32 P, q_33 P, q_34 P, q_35 P, q_36 P, q_37 P, q_38 P, q_39 P, q_40 P, q_41 P, q_42 P, q_43 P, q_44 P, q_45 P, q_46 P, q_47 P, q_48 P, q_49 P, q_50 P, q_51 P, q_52 P, q_53 P, q_54 P, q_55 P, q_56 P, q_57 P, q_58 P, q_59 P, q_60 P, q_61 P, q_62 P, q_63 P, q_64 P, q_65 P, q_66 P, q_67 P, q_68 P, q_69 P, q_70 P, q_71 P, q_72 P] 74), #[]⟩
noncomputable def v8_12 (P : Params) : Obj := ⟨.none, none, (.fields #[(.int 1 0), (.int 0 0), (.ref 20), (.int 5 0), (.int 0 0), (.ref 27), (.int 9 0), (.int 0 0), (.ref 32), (.int 25 0), (.int 0 0), (.ref 39), (.int 30 0), (.int 0 0), (.ref 44), (.int 36 0), (.int 0 0), (.ref 51), (.int 38 0), (.int 0 0), (.ref 64), (.int 48 0), (.int 0 0), (.ref 86), (.int 52 0), (.int 0 0), (.ref 93), (.int 56 0), (.int 0 0), (.ref 100), (.int 66 0), (.int 0 0), (.ref 107), (.int 70 0), (.int 0 0), (.ref 114), (.int 72 0), (.int 0 0), (.ref 121), (.int 74 0), (.int 0 0), (.ref 128), (.int 78 0), (.int 0 0), (.ref 135), (.int 83 0), (.int 0 0), (.ref 142), (.int 89 0), (.int 0 0), (.ref 149), (.int 103 0), (.int 0 0), (.ref 156), (.int 114 0), (.int 0 0), (.ref 163), (.int 122 0), (.int 0 0), (.ref 170), (.int 127 0), (.int 0 0), (.ref 177), (.int 136 0), (.int 0 0), (.ref 184), (.int 141 0), (.int 0 0), (.ref 191), (.int 148 0), (.int 0 0), (.ref 198), (.int 156 0), (.int 0 0), (.ref 205), (.int 163 0), (.int 0 0), (.ref 212), (.int 183 0), (.int 0 0), (.ref 219), (.int 190 0), (.int 0 0), (.ref 224), (.int 194 0), (.int 0 0), (.ref 232), (.int 196 0), (.int 0 0), (.ref 239), (.int 201 0), (.int 0 0), (.ref 246), (.int 205 0), (.int 0 0), (.ref 253), (.int 215 0), (.int 0 0), (.ref 260), (.int 225 0), (.int 0 0), (.ref 267), (.int 259 0), (.int 0 0), (.ref 274), (.int 278 0), (.int 0 0), (.ref 281), (.int 283 0), (.int 0 0), (.ref 302), (.int 294 0), (.int 0 0), (.ref 331), (.int 300 0), (.int 0 0), (.ref 352), (.int 304 0), (.int 0 0), (.ref 359), (.int 306 0), (.int 0 0), (.ref 366), (.int 308 0), (.int 0 0), (.ref 373), (.int 312 0), (.int 0 0), (.ref 380), (.int 323 0), (.int 0 0), (.ref 387), (.int 325 0), (.int 0 0), (.ref 394), (.int 327 0), (.int 0 0), (.ref 401), (.int 333 0), (.int 0 0), (.ref 408), (.int 338 0), (.int 0 0), (.ref 415), (.int 344 0), (.int 0 0), (.ref 422), (.int 347 0), (.int 0 0), (.ref 429), (.int 353 0), (.int 0 0), (.ref 436), (.int 361 0), (.int 0 0), (.ref 443), (.int 367 0), (.int 0 0), (.ref 450), (.int 377 0), (.int 0 0), (.ref 457), (.int 385 0), (.int 0 0), (.ref 464), (.int 391 0), (.int 0 0), (.ref 471)]), #[]⟩
noncomputable def t8 (P : Params) : BT := (.node (o0 P) (.node (o1 P) (.node (v8_3 P) (.node (o7 P) (.node (o15 P) (.node (o31 P) (.node (o63 P) (.node (o127 P) (lf (o255 P)) (lf (o383 P))) (.node (o191 P) (lf (o319 P)) (lf (o447 P)))) (.node (o95 P) (.node (o159 P) (lf (o287 P)) (lf (o415 P))) (.node (o223 P) (lf (o351 P)) .nil))) (.node (o47 P) (.node (o79 P) (.node (o143 P) (lf (o271 P)) (lf (o399 P))) (.node (o207 P) (lf (o335 P)) (lf (o463 P)))) (.node (o111 P) (.node (o175 P) (lf (o303 P)) (lf (o431 P))) (.node (o239 P) (lf (o367 P)) .nil)))) (.node (o23 P) (.node (o39 P) (.node (o71 P) (.node (o135 P) (lf (o263 P)) (lf (o391 P))) (.node (o199 P) (lf (o327 P)) (lf (o455 P)))) (.node (o103 P) (.node (o167 P) (lf (o295 P)) (lf (o423 P))) (.node (o231 P) (lf (o359 P)) .nil))) (.node (o55 P) (.node (o87 P) (.node (o151 P) (lf (o279 P)) (lf (o407 P))) (.node (o215 P) (lf (o343 P)) (lf (o471 P)))) (.node (o119 P) (.node (o183 P) (lf (o311 P)) (lf (o439 P))) (.node (o247 P) (lf (o375 P)) .nil))))) (.node (o11 P) (.node (o19 P) (.node (o35 P) (.node (o67 P) (.node (o131 P) (lf (o259 P)) (lf (o387 P))) (.node (o195 P) (lf (o323 P)) (lf (o451 P)))) (.node (o99 P) (.node (o163 P) (lf (o291 P)) (lf (o419 P))) (.node (o227 P) (lf (o355 P)) .nil))) (.node (o51 P) (.node (o83 P) (.node (o147 P) (lf (o275 P)) (lf (o403 P))) (.node (o211 P) (lf (o339 P)) (lf (o467 P)))) (.node (o115 P) (.node (o179 P) (lf (o307 P)) (lf (o435 P))) (.node (o243 P) (lf (o371 P)) .nil)))) (.node (o27 P) (.node (o43 P) (.node (o75 P) (.node (o139 P) (lf (o267 P)) (lf (o395 P))) (.node (o203 P) (lf (o331 P)) (lf (o459 P)))) (.node (o107 P) (.node (o171 P) (lf (o299 P)) (lf (o427 P))) (.node (o235 P) (lf (o363 P)) .nil))) (.node (o59 P) (.node (o91 P) (.node (o155 P) (lf (o283 P)) (lf (o411 P))) (.node (o219 P) (lf (o347 P)) .nil)) (.node (o123 P) (.node (o187 P) (lf (o315 P)) (lf (o443 P))) (.node (o251 P) (lf (o379 P)) .nil)))))) (.node (o5 P) (.node (o9 P) (.node (o17 P) (.node (o33 P) (.node (o65 P) (.node (o129 P) (lf (o257 P)) (lf (o385 P))) (.node (o193 P) (lf (o321 P)) (lf (o449 P)))) (.node (o97 P) (.node (o161 P) (lf (o289 P)) (lf (o417 P))) (.node (o225 P) (lf (o353 P)) .nil))) (.node (o49 P) (.node (o81 P) (.node (o145 P) (lf (o273 P)) (lf (o401 P))) (.node (o209 P) (lf (o337 P)) (lf (o465 P)))) (.node (o113 P) (.node (o177 P) (lf (o305 P)) (lf (o433 P))) (.node (o241 P) (lf (o369 P)) .nil)))) (.node (o25 P) (.node (o41 P) (.node (o73 P) (.node (o137 P) (lf (o265 P)) (lf (o393 P))) (.node (o201 P) (lf (o329 P)) (lf (o457 P)))) (.node (o105 P) (.node (o169 P) (lf (o297 P)) (lf (o425 P))) (.node (o233 P) (lf (o361 P)) .nil))) (.node (o57 P) (.node (o89 P) (.node (o153 P) (lf (o281 P)) (lf (o409 P))) (.node (o217 P) (lf (o345 P)) .nil)) (.node (o121 P) (.node (o185 P) (lf (o313 P)) (lf (o441 P))) (.node (o249 P) (lf (o377 P)) .nil))))) (.node (o13 P) (.node (o21 P) (.node (o37 P) (.node (o69 P) (.node (o133 P) (lf (o261 P)) (lf (o389 P))) (.node (o197 P) (lf (o325 P)) (lf (o453 P)))) (.node (o101 P) (.node (o165 P) (lf (o293 P)) (lf (o421 P))) (.node (o229 P) (lf (o357 P)) .nil))) (.node (o53 P) (.node (o85 P) (.node (o149 P) (lf (o277 P)) (lf (o405 P))) (.node (o213 P) (lf (o341 P)) (lf (o469 P)))) (.node (o117 P) (.node (o181 P) (lf (o309 P)) (lf (o437 P))) (.node (o245 P) (lf (o373 P)) .nil)))) (.node (o29 P) (.node (o45 P) (.node (o77 P) (.node (o141 P) (lf (o269 P)) (lf (o397 P))) (.node (o205 P) (lf (o333 P)) (lf (o461 P)))) (.node (o109 P) (.node (o173 P) (lf (o301 P)) (lf (o429 P))) (.node (o237 P) (lf (o365 P)) .nil))) (.node (o61 P) (.node (o93 P) (.node (o157 P) (lf (o285 P)) (lf (o413 P))) (.node (o221 P) (lf (o349 P)) .nil)) (.node (o125 P) (.node (o189 P) (lf (o317 P)) (lf (o445 P))) (.node (o253 P) (lf (o381 P)) .nil))))))) (.node (o2 P) (.node (o4 P) (.node (o8 P) (.node (o16 P) (.node (o32 P) (.node (o64 P) (.node (o128 P) (lf (o256 P)) (lf (o384 P))) (.node (o192 P) (lf (o320 P)) (lf (o448 P)))) (.node (o96 P) (.node (o160 P) (lf (o288 P)) (lf (o416 P))) (.node (o224 P) (lf (o352 P)) .nil))) (.node (o48 P) (.node (o80 P) (.node (o144 P) (lf (o272 P)) (lf (o400 P))) (.node (o208 P) (lf (o336 P)) (lf (o464 P)))) (.node (o112 P) (.node (o176 P) (lf (o304 P)) (lf (o432 P))) (.node (o240 P) (lf (o368 P)) .nil)))) (.node (o24 P) (.node (o40 P) (.node (o72 P) (.node (o136 P) (lf (o264 P)) (lf (o392 P))) (.node (o200 P) (lf (o328 P)) (lf (o456 P)))) (.node (o104 P) (.node (o168 P) (lf (o296 P)) (lf (o424 P))) (.node (o232 P) (lf (o360 P)) .nil))) (.node (o56 P) (.node (o88 P) (.node (o152 P) (lf (o280 P)) (lf (o408 P))) (.node (o216 P) (lf (o344 P)) (lf (o472 P)))) (.node (o120 P) (.node (o184 P) (lf (o312 P)) (lf (o440 P))) (.node (o248 P) (lf (o376 P)) .nil))))) (.node (v8_12 P) (.node (o20 P) (.node (o36 P) (.node (o68 P) (.node (o132 P) (lf (o260 P)) (lf (o388 P))) (.node (o196 P) (lf (o324 P)) (lf (o452 P)))) (.node (o100 P) (.node (o164 P) (lf (o292 P)) (lf (o420 P))) (.node (o228 P) (lf (o356 P)) .nil))) (.node (o52 P) (.node (o84 P) (.node (o148 P) (lf (o276 P)) (lf (o404 P))) (.node (o212 P) (lf (o340 P)) (lf (o468 P)))) (.node (o116 P) (.node (o180 P) (lf (o308 P)) (lf (o436 P))) (.node (o244 P) (lf (o372 P)) .nil)))) (.node (o28 P) (.node (o44 P) (.node (o76 P) (.node (o140 P) (lf (o268 P)) (lf (o396 P))) (.node (o204 P) (lf (o332 P)) (lf (o460 P)))) (.node (o108 P) (.node (o172 P) (lf (o300 P)) (lf (o428 P))) (.node (o236 P) (lf (o364 P)) .nil))) (.node (o60 P) (.node (o92 P) (.node (o156 P) (lf (o284 P)) (lf (o412 P))) (.node (o220 P) (lf (o348 P)) .nil)) (.node (o124 P) (.node (o188 P) (lf (o316 P)) (lf (o444 P))) (.node (o252 P) (lf (o380 P)) .nil)))))) (.node (o6 P) (.node (o10 P) (.node (o18 P) (.node (o34 P) (.node (o66 P) (.node (o130 P) (lf (o258 P)) (lf (o386 P))) (.node (o194 P) (lf (o322 P)) (lf (o450 P)))) (.node (o98 P) (.node (o162 P) (lf (o290 P)) (lf (o418 P))) (.node (o226 P) (lf (o354 P)) .nil))) (.node (o50 P) (.node (o82 P) (.node (o146 P) (lf (o274 P)) (lf (o402 P))) (.node (o210 P) (lf (o338 P)) (lf (o466 P)))) (.node (o114 P) (.node (o178 P) (lf (o306 P)) (lf (o434 P))) (.node (o242 P) (lf (o370 P)) .nil)))) (.node (o26 P) (.node (o42 P) (.node (o74 P) (.node (o138 P) (lf (o266 P)) (lf (o394 P))) (.node (o202 P) (lf (o330 P)) (lf (o458 P)))) (.node (o106 P) (.node (o170 P) (lf (o298 P)) (lf (o426 P))) (.node (o234 P) (lf (o362 P)) .nil))) (.node (o58 P) (.node (o90 P) (.node (o154 P) (lf (o282 P)) (lf (o410 P))) (.node (o218 P) (lf (o346 P)) .nil)) (.node (o122 P) (.node (o186 P) (lf (o314 P)) (lf (o442 P))) (.node (o250 P) (lf (o378 P)) .nil))))) (.node (o14 P) (.node (o22 P) (.node (o38 P) (.node (o70 P) (.node (o134 P) (lf (o262 P)) (lf (o390 P))) (.node (o198 P) (lf (o326 P)) (lf (o454 P)))) (.node (o102 P) (.node (o166 P) (lf (o294 P)) (lf (o422 P))) (.node (o230 P) (lf (o358 P)) .nil))) (.node (o54 P) (.node (o86 P) (.node (o150 P) (lf (o278 P)) (lf (o406 P))) (.node (o214 P) (lf (o342 P)) (lf (o470 P)))) (.node (o118 P) (.node (o182 P) (lf (o310 P)) (lf (o438 P))) (.node (o246 P) (lf (o374 P)) .nil)))) (.node (o30 P) (.node (o46 P) (.node (o78 P) (.node (o142 P) (lf (o270 P)) (lf (o398 P))) (.node (o206 P) (lf (o334 P)) (lf (o462 P)))) (.node (o110 P) (.node (o174 P) (lf (o302 P)) (lf (o430 P))) (.node (o238 P) (lf (o366 P)) .nil))) (.node (o62 P) (.node (o94 P) (.node (o158 P) (lf (o286 P)) (lf (o414 P))) (.node (o222 P) (lf (o350 P)) .nil)) (.node (o126 P) (.node (o190 P) (lf (o318 P)) (lf (o446 P))) (.node (o254 P) (lf (o382 P)) .nil))))))))
noncomputable def S8 (w : World) (os : OsState) : SharedT := ⟨t8 w.params, 473, {}, #[], {}, 816, os⟩
noncomputable def v9_3 (P : Params) : Obj := ⟨(.type "dict"), none, (.dict #[en P s0 165 (.str s346 871), q_0 P, q_1 P, q_2 P, q_3 P, q_4 P, q_5 P, q_6 P, q_7 P, q_8 P, q_9 P, q_10 P, q_11 P, q_12 P, q_13 P, q_14 P, q_15 P, q_16 P, q_17 P, q_18 P, q_19 P, q_20 P, q_21 P, q_22 P, q_23 P, q_24 P, q_25 P, q_26 P, q_27 P, q_28 P, q_29 P, q_30 P, q_31 P, q_32 P, q_33 P, q_34 P, q_35 P, q_36 P, q_37 P, q_38 P, q_39 P, q_40 P, q_41 P, q_42 P, q_43 P, q_44 P, q_45 P, q_46 P, q_47 P, q_48 P, q_49 P, q_50 P, q_51 P, q_52 P, q_53 P, q_54 P, q_55 P, q_56 P, q_57 P, q_58 P, q_59 P, q_60 P, q_61 P, q_62 P, q_63 P, q_64 P, q_65 P, q_66 P, q_67 P, q_68 P, q_69 P, q_70 P, q_71 P, q_72 P, q_73 P, q_74 P, q_75 P, q_76 P, q_77 P, q_78 P, q_79 P, q_80 P] 82), #[]⟩
noncomputable def v9_12 (P : Params) : Obj := ⟨.none, none, (.fields #[(.int 1 0), (.int 0 0), (.ref 20), (.int 5 0), (.int 0 0), (.ref 27), (.int 9 0), (.int 0 0), (.ref 32), (.int 25 0), (.int 0 0), (.ref 39), (.int 30 0), (.int 0 0), (.ref 44), (.int 36 0), (.int 0 0), (.ref 51), (.int 38 0), (.int 0 0), (.ref 64), (.int 48 0), (.int 0 0), (.ref 86), (.int 52 0), (.int 0 0), (.ref 93), (.int 56 0), (.int 0 0), (.ref 100), (.int 66 0), (.int 0 0), (.ref 107), (.int 70 0), (.int 0 0), (.ref 114), (.int 72 0), (.int 0 0), (.ref 121), (.int 74 0), (.int 0 0), (.ref 128), (.int 78 0), (.int 0 0), (.ref 135), (.int 83 0), (.int 0 0), (.ref 142), (.int 89 0), (.int 0 0), (.ref 149), (.int 103 0), (.int 0 0), (.ref 156), (.int 114 0), (.int 0 0), (.ref 163), (.int 122 0), (.int 0 0), (.ref 170), (.int 127 0), (.int 0 0), (.ref 177), (.int 136 0), (.int 0 0), (.ref 184), (.int 141 0), (.int 0 0), (.ref 191), (.int 148 0), (.int 0 0), (.ref 198), (.int 156 0), (.int 0 0), (.ref 205), (.int 163 0), (.int 0 0), (.ref 212), (.int 183 0), (.int 0 0), (.ref 219), (.int 190 0), (.int 0 0), (.ref 224), (.int 194 0), (.int 0 0), (.ref 232), (.int 196 0), (.int 0 0), (.ref 239), (.int 201 0), (.int 0 0), (.ref 246), (.int 205 0), (.int 0 0), (.ref 253), (.int 215 0), (.int 0 0), (.ref 260), (.int 225 0), (.int 0 0), (.ref 267), (.int 259 0), (.int 0 0), (.ref 274), (.int 278 0), (.int 0 0), (.ref 281), (.int 283 0), (.int 0 0), (.ref 302), (.int 294 0), (.int 0 0), (.ref 331), (.int 300 0), (.int 0 0), (.ref 352), (.int 304 0), (.int 0 0), (.ref 359), (.int 306 0), (.int 0 0), (.ref 366), (.int 308 0), (.int 0 0), (.ref 373), (.int 312 0), (.int 0 0), (.ref 380), (.int 323 0), (.int 0 0), (.ref 387), (.int 325 0), (.int 0 0), (.ref 394), (.int 327 0), (.int 0 0), (.ref 401), (.int 333 0), (.int 0 0), (.ref 408), (.int 338 0), (.int 0 0), (.ref 415), (.int 344 0), (.int 0 0), (.ref 422), (.int 347 0), (.int 0 0), (.ref 429), (.int 353 0), (.int 0 0), (.ref 436), (.int 361 0), (.int 0 0), (.ref 443), (.int 367 0), (.int 0 0), (.ref 450), (.int 377 0), (.int 0 0), (.ref 457), (.int 385 0), (.int 0 0), (.ref 464), (.int 391 0), (.int 0 0), (.ref 471), (.int 399 0), (.int 0 0), (.ref 478), (.int 413 0), (.int 0 0), (.ref 485), (.int 415 0), (.int 0 0), (.ref 492), (.int 421 0), (.int 0 0), (.ref 499), (.int 423 0), (.int 0 0), (.ref 504), (.int 437 0), (.int 0 0), (.ref 511), (.int 441 0), (.int 0 0), (.ref 516)]), #[]⟩
noncomputable def t9 (P : Params) : BT := (.node (o0 P) (.node (o1 P) (.node (v9_3 P) (.node (o7 P) (.node (o15 P) (.node (o31 P) (.node (o63 P) (.node (o127 P) (.node (o255 P) (lf (o511 P)) .nil) (lf (o383 P))) (.node (o191 P) (lf (o319 P)) (lf (o447 P)))) (.node (o95 P) (.node (o159 P) (lf (o287 P)) (lf (o415 P))) (.node (o223 P) (lf (o351 P)) (lf (o479 P))))) (.node (o47 P) (.node (o79 P) (.node (o143 P) (lf (o271 P)) (lf (o399 P))) (.node (o207 P) (lf (o335 P)) (lf (o463 P)))) (.node (o111 P) (.node (o175 P) (lf (o303 P)) (lf (o431 P))) (.node (o239 P) (lf (o367 P)) (lf (o495 P)))))) (.node (o23 P) (.node (o39 P) (.node (o71 P) (.node (o135 P) (lf (o263 P)) (lf (o391 P))) (.node (o199 P) (lf (o327 P)) (lf (o455 P)))) (.node (o103 P) (.node (o167 P) (lf (o295 P)) (lf (o423 P))) (.node (o231 P) (lf (o359 P)) (lf (o487 P))))) (.node (o55 P) (.node (o87 P) (.node (o151 P) (lf (o279 P)) (lf (o407 P))) (.node (o215 P) (lf (o343 P)) (lf (o471 P)))) (.node (o119 P) (.node (o183 P) (lf (o311 P)) (lf (o439 P))) (.node (o247 P) (lf (o375 P)) (lf (o503 P))))))) (.node (o11 P) (.node (o19 P) (.node (o35 P) (.node (o67 P) (.node (o131 P) (.node (o259 P) (lf (o515 P)) .nil) (lf (o387 P))) (.node (o195 P) (lf (o323 P)) (lf (o451 P)))) (.node (o99 P) (.node (o163 P) (lf (o291 P)) (lf (o419 P))) (.node (o227 P) (lf (o355 P)) (lf (o483 P))))) (.node (o51 P) (.node (o83 P) (.node (o147 P) (lf (o275 P)) (lf (o403 P))) (.node (o211 P) (lf (o339 P)) (lf (o467 P)))) (.node (o115 P) (.node (o179 P) (lf (o307 P)) (lf (o435 P))) (.node (o243 P) (lf (o371 P)) (lf (o499 P)))))) (.node (o27 P) (.node (o43 P) (.node (o75 P) (.node (o139 P) (lf (o267 P)) (lf (o395 P))) (.node (o203 P) (lf (o331 P)) (lf (o459 P)))) (.node (o107 P) (.node (o171 P) (lf (o299 P)) (lf (o427 P))) (.node (o235 P) (lf (o363 P)) (lf (o491 P))))) (.node (o59 P) (.node (o91 P) (.node (o155 P) (lf (o283 P)) (lf (o411 P))) (.node (o219 P) (lf (o347 P)) (lf (o475 P)))) (.node (o123 P) (.node (o187 P) (lf (o315 P)) (lf (o443 P))) (.node (o251 P) (lf (o379 P)) (lf (o507 P)))))))) (.node (o5 P) (.node (o9 P) (.node (o17 P) (.node (o33 P) (.node (o65 P) (.node (o129 P) (.node (o257 P) (lf (o513 P)) .nil) (lf (o385 P))) (.node (o193 P) (lf (o321 P)) (lf (o449 P)))) (.node (o97 P) (.node (o161 P) (lf (o289 P)) (lf (o417 P))) (.node (o225 P) (lf (o353 P)) (lf (o481 P))))) (.node (o49 P) (.node (o81 P) (.node (o145 P) (lf (o273 P)) (lf (o401 P))) (.node (o209 P) (lf (o337 P)) (lf (o465 P)))) (.node (o113 P) (.node (o177 P) (lf (o305 P)) (lf (o433 P))) (.node (o241 P) (lf (o369 P)) (lf (o497 P)))))) (.node (o25 P) (.node (o41 P) (.node (o73 P) (.node (o137 P) (lf (o265 P)) (lf (o393 P))) (.node (o201 P) (lf (o329 P)) (lf (o457 P)))) (.node (o105 P) (.node (o169 P) (lf (o297 P)) (lf (o425 P))) (.node (o233 P) (lf (o361 P)) (lf (o489 P))))) (.node (o57 P) (.node (o89 P) (.node (o153 P) (lf (o281 P)) (lf (o409 P))) (.node (o217 P) (lf (o345 P)) (lf (o473 P)))) (.node (o121 P) (.node (o185 P) (lf (o313 P)) (lf (o441 P))) (.node (o249 P) (lf (o377 P)) (lf (o505 P))))))) (.node (o13 P) (.node (o21 P) (.node (o37 P) (.node (o69 P) (.node (o133 P) (.node (o261 P) (lf (o517 P)) .nil) (lf (o389 P))) (.node (o197 P) (lf (o325 P)) (lf (o453 P)))) (.node (o101 P) (.node (o165 P) (lf (o293 P)) (lf (o421 P))) (.node (o229 P) (lf (o357 P)) (lf (o485 P))))) (.node (o53 P) (.node (o85 P) (.node (o149 P) (lf (o277 P)) (lf (o405 P))) (.node (o213 P) (lf (o341 P)) (lf (o469 P)))) (.node (o117 P) (.node (o181 P) (lf (o309 P)) (lf (o437 P))) (.node (o245 P) (lf (o373 P)) (lf (o501 P)))))) (.node (o29 P) (.node (o45 P) (.node (o77 P) (.node (o141 P) (lf (o269 P)) (lf (o397 P))) (.node (o205 P) (lf (o333 P)) (lf (o461 P)))) (.node (o109 P) (.node (o173 P) (lf (o301 P)) (lf (o429 P))) (.node (o237 P) (lf (o365 P)) (lf (o493 P))))) (.node (o61 P) (.node (o93 P) (.node (o157 P) (lf (o285 P)) (lf (o413 P))) (.node (o221 P) (lf (o349 P)) (lf (o477 P)))) (.node (o125 P) (.node (o189 P) (lf (o317 P)) (lf (o445 P))) (.node (o253 P) (lf (o381 P)) (lf (o509 P))))))))) (.node (o2 P) (.node (o4 P) (.node (o8 P) (.node (o16 P) (.node (o32 P) (.node (o64 P) (.node (o128 P) (.node (o256 P) (lf (o512 P)) .nil) (lf (o384 P))) (.node (o192 P) (lf (o320 P)) (lf (o448 P)))) (.node (o96 P) (.node (o160 P) (lf (o288 P)) (lf (o416 P))) (.node (o224 P) (lf (o352 P)) (lf (o480 P))))) (.node (o48 P) (.node (o80 P) (.node (o144 P) (lf (o272 P)) (lf (o400 P))) (.node (o208 P) (lf (o336 P)) (lf (o464 P)))) (.node (o112 P) (.node (o176 P) (lf (o304 P)) (lf (o432 P))) (.node (o240 P) (lf (o368 P)) (lf (o496 P)))))) (.node (o24 P) (.node (o40 P) (.node (o72 P) (.node (o136 P) (lf (o264 P)) (lf (o392 P))) (.node (o200 P) (lf (o328 P)) (lf (o456 P)))) (.node (o104 P) (.node (o168 P) (lf (o296 P)) (lf (o424 P))) (.node (o232 P) (lf (o360 P)) (lf (o488 P))))) (.node (o56 P) (.node (o88 P) (.node (o152 P) (lf (o280 P)) (lf (o408 P))) (.node (o216 P) (lf (o344 P)) (lf (o472 P)))) (.node (o120 P) (.node (o184 P) (lf (o312 P)) (lf (o440 P))) (.node (o248 P) (lf (o376 P)) (lf (o504 P))))))) (.node (v9_12 P) (.node (o20 P) (.node (o36 P) (.node (o68 P) (.node (o132 P) (.node (o260 P) (lf (o516 P)) .nil) (lf (o388 P))) (.node (o196 P) (lf (o324 P)) (lf (o452 P)))) (.node (o100 P) (.node (o164 P) (lf (o292 P)) (lf (o420 P))) (.node (o228 P) (lf (o356 P)) (lf (o484 P))))) (.node (o52 P) (.node (o84 P) (.node (o148 P) (lf (o276 P)) (lf (o404 P))) (.node (o212 P) (lf (o340 P)) (lf (o468 P)))) (.node (o116 P) (.node (o180 P) (lf (o308 P)) (lf (o436 P))) (.node (o244 P) (lf (o372 P)) (lf (o500 P)))))) (.node (o28 P) (.node (o44 P) (.node (o76 P) (.node (o140 P) (lf (o268 P)) (lf (o396 P))) (.node (o204 P) (lf (o332 P)) (lf (o460 P)))) (.node (o108 P) (.node (o172 P) (lf (o300 P)) (lf (o428 P))) (.node (o236 P) (lf (o364 P)) (lf (o492 P))))) (.node (o60 P) (.node (o92 P) (.node (o156 P) (lf (o284 P)) (lf (o412 P))) (.node (o220 P) (lf (o348 P)) (lf (o476 P)))) (.node (o124 P) (.node (o188 P) (lf (o316 P)) (lf (o444 P))) (.node (o252 P) (lf (o380 P)) (lf (o508 P)))))))) (.node (o6 P) (.node (o10 P) (.node (o18 P) (.node (o34 P) (.node (o66 P) (.node (o130 P) (.node (o258 P) (lf (o514 P)) .nil) (lf (o386 P))) (.node (o194 P) (lf (o322 P)) (lf (o450 P)))) (.node (o98 P) (.node (o162 P) (lf (o290 P)) (lf (o418 P))) (.node (o226 P) (lf (o354 P)) (lf (o482 P))))) (.node (o50 P) (.node (o82 P) (.node (o146 P) (lf (o274 P)) (lf (o402 P))) (.node (o210 P) (lf (o338 P)) (lf (o466 P)))) (.node (o114 P) (.node (o178 P) (lf (o306 P)) (lf (o434 P))) (.node (o242 P) (lf (o370 P)) (lf (o498 P)))))) (.node (o26 P) (.node (o42 P) (.node (o74 P) (.node (o138 P) (lf (o266 P)) (lf (o394 P))) (.node (o202 P) (lf (o330 P)) (lf (o458 P)))) (.node (o106 P) (.node (o170 P) (lf (o298 P)) (lf (o426 P))) (.node (o234 P) (lf (o362 P)) (lf (o490 P))))) (.node (o58 P) (.node (o90 P) (.node (o154 P) (lf (o282 P)) (lf (o410 P))) (.node (o218 P) (lf (o346 P)) (lf (o474 P)))) (.node (o122 P) (.node (o186 P) (lf (o314 P)) (lf (o442 P))) (.node (o250 P) (lf (o378 P)) (lf (o506 P))))))) (.node (o14 P) (.node (o22 P) (.node (o38 P) (.node (o70 P) (.node (o134 P) (lf (o262 P)) (lf (o390 P))) (.node (o198 P) (lf (o326 P)) (lf (o454 P)))) (.node (o102 P) (.node (o166 P) (lf (o294 P)) (lf (o422 P))) (.node (o230 P) (lf (o358 P)) (lf (o486 P))))) (.node (o54 P) (.node (o86 P) (.node (o150 P) (lf (o278 P)) (lf (o406 P))) (.node (o214 P) (lf (o342 P)) (lf (o470 P)))) (.node (o118 P) (.node (o182 P) (lf (o310 P)) (lf (o438 P))) (.node (o246 P) (lf (o374 P)) (lf (o502 P)))))) (.node (o30 P) (.node (o46 P) (.node (o78 P) (.node (o142 P) (lf (o270 P)) (lf (o398 P))) (.node (o206 P) (lf (o334 P)) (lf (o462 P)))) (.node (o110 P) (.node (o174 P) (lf (o302 P)) (lf (o430 P))) (.node (o238 P) (lf (o366 P)) (lf (o494 P))))) (.node (o62 P) (.node (o94 P) (.node (o158 P) (lf (o286 P)) (lf (o414 P))) (.node (o222 P) (lf (o350 P)) (lf (o478 P)))) (.node (o126 P) (.node (o190 P) (lf (o318 P)) (lf (o446 P))) (.node (o254 P) (lf (o382 P)) (lf (o510 P))))))))))
noncomputable def S9 (w : World) (os : OsState) : SharedT := ⟨t9 w.params, 518, {}, #[], {}, 875, os⟩
noncomputable def v10_3 (P : Params) : Obj := ⟨(.type "dict"), none, (.dict #[en P s0 165 (.str s346 871), q_0 P, q_1 P, q_2 P, q_3 P, q_4 P, q_5 P, q_6 P, q_7 P, q_8 P, q_9 P, q_10 P, q_11 P, q_12 P, q_13 P, q_14 P, q_15 P, q_16 P, q_17 P, q_18 P, q_19 P, q_20 P, q_21 P, q_22 P, q_23 P, q_24 P, q_25 P, q_26 P, q_27 P, q_28 P, q_29 P, q_30 P, q_31 P, q_32 P, q_33 P, q_34 P, q_35 P, q_36 P, q_37 P, q_38 P, q_39 P, q_40 P, q_41 P, q_42 P, q_43 P, q_44 P, q_45 P, q_46 P, q_47 P, q_48 P, q_49 P, q_50 P, q_51 P, q_52 P, q_53 P, q_54 P, q_55 P, q_56 P, q_57 P, q_58 P, q_59 P, q_60 P, q_61 P, q_62 P, q_63 P, q_64 P, q_65 P, q_66 P, q_67 P, q_68 P, q_69 P, q_70 P, q_71 P, q_72 P, q_73 P, q_74 P, q_75 P, q_76 P, q_77 P, q_78 P, q_79 P, q_80 P, q_81 P, q_82 P, q_83 P, q_84 P, q_85 P, q_86 P] 88), #[]⟩
noncomputable def v10_12 (P : Params) : Obj := ⟨.none, none, (.fields #[(.int 1 0), (.int 0 0), (.ref 20), (.int 5 0), (.int 0 0), (.ref 27), (.int 9 0), (.int 0 0), (.ref 32), (.int 25 0), (.int 0 0), (.ref 39), (.int 30 0), (.int 0 0), (.ref 44), (.int 36 0), (.int 0 0), (.ref 51), (.int 38 0), (.int 0 0), (.ref 64), (.int 48 0), (.int 0 0), (.ref 86), (.int 52 0), (.int 0 0), (.ref 93), (.int 56 0), (.int 0 0), (.ref 100), (.int 66 0), (.int 0 0), (.ref 107), (.int 70 0), (.int 0 0), (.ref 114), (.int 72 0), (.int 0 0), (.ref 121), (.int 74 0), (.int 0 0), (.ref 128), (.int 78 0), (.int 0 0), (.ref 135), (.int 83 0), (.int 0 0), (.ref 142), (.int 89 0), (.int 0 0), (.ref 149), (.int 103 0), (.int 0 0), (.ref 156), (.int 114 0), (.int 0 0), (.ref 163), (.int 122 0), (.int 0 0), (.ref 170), (.int 127 0), (.int 0 0), (.ref 177), (.int 136 0), (.int 0 0), (.ref 184), (.int 141 0), (.int 0 0), (.ref 191), (.int 148 0), (.int 0 0), (.ref 198), (.int 156 0), (.int 0 0), (.ref 205), (.int 163 0), (.int 0 0), (.ref 212), (.int 183 0), (.int 0 0), (.ref 219), (.int 190 0), (.int 0 0), (.ref 224), (.int 194 0), (.int 0 0), (.ref 232), (.int 196 0), (.int 0 0), (.ref 239), (.int 201 0), (.int 0 0), (.ref 246), (.int 205 0), (.int 0 0), (.ref 253), (.int 215 0), (.int 0 0), (.ref 260), (.int 225 0), (.int 0 0), (.ref 267), (.int 259 0), (.int 0 0), (.ref 274), (.int 278 0), (.int 0 0), (.ref 281), (.int 283 0), (.int 0 0), (.ref 302), (.int 294 0), (.int 0 0), (.ref 331), (.int 300 0), (.int 0 0), (.ref 352), (.int 304 0), (.int 0 0), (.ref 359), (.int 306 0), (.int 0 0), (.ref 366), (.int 308 0), (.int 0 0), (.ref 373), (.int 312 0), (.int 0 0), (.ref 380), (.int 323 0), (.int 0 0), (.ref 387), (.int 325 0), (.int 0 0), (.ref 394), (.int 327 0), (.int 0 0), (.ref 401), (.int 333 0), (.int 0 0), (.ref 408), (.int 338 0), (.int 0 0), (.ref 415), (.int 344 0), (.int 0 0), (.ref 422), (.int 347 0), (.int 0 0), (.ref 429), (.int 353 0), (.int 0 0), (.ref 436), (.int 361 0), (.int 0 0), (.ref 443), (.int 367 0), (.int 0 0), (.ref 450), (.int 377 0), (.int 0 0), (.ref 457), (.int 385 0), (.int 0 0), (.ref 464), (.int 391 0), (.int 0 0), (.ref 471), (.int 399 0), (.int 0 0), (.ref 478), (.int 413 0), (.int 0 0), (.ref 485), (.int 415 0), (.int 0 0), (.ref 492), (.int 421 0), (.int 0 0), (.ref 499), (.int 423 0), (.int 0 0), (.ref 504), (.int 437 0), (.int 0 0), (.ref 511), (.int 441 0), (.int 0 0), (.ref 516), (.int 450 0), (.int 0 0), (.ref 523), (.int 456 0), (.int 0 0), (.ref 544), (.int 458 0), (.int 0 0), (.ref 551), (.int 469 0), (.int 0 0), (.ref 558), (.int 471 0), (.int 0 0), (.ref 565), (.int 477 0), (.int 0 0), (.ref 572)]), #[]⟩
noncomputable def t10 (P : Params) : BT := (.node (o0 P) (.node (o1 P) (.node (v10_3 P) (.node (o7 P) (.node (o15 P) (.node (o31 P) (.node (o63 P) (.node (o127 P) (.node (o255 P) (lf (o511 P)) .nil) (lf (o383 P))) (.node (o191 P) (lf (o319 P)) (lf (o447 P)))) (.node (o95 P) (.node (o159 P) (.node (o287 P) (lf (o543 P)) .nil) (lf (o415 P))) (.node (o223 P) (lf (o351 P)) (lf (o479 P))))) (.node (o47 P) (.node (o79 P) (.node (o143 P) (.node (o271 P) (lf (o527 P)) .nil) (lf (o399 P))) (.node (o207 P) (lf (o335 P)) (lf (o463 P)))) (.node (o111 P) (.node (o175 P) (.node (o303 P) (lf (o559 P)) .nil) (lf (o431 P))) (.node (o239 P) (lf (o367 P)) (lf (o495 P)))))) (.node (o23 P) (.node (o39 P) (.node (o71 P) (.node (o135 P) (.node (o263 P) (lf (o519 P)) .nil) (lf (o391 P))) (.node (o199 P) (lf (o327 P)) (lf (o455 P)))) (.node (o103 P) (.node (o167 P) (.node (o295 P) (lf (o551 P)) .nil) (lf (o423 P))) (.node (o231 P) (lf (o359 P)) (lf (o487 P))))) (.node (o55 P) (.node (o87 P) (.node (o151 P) (.node (o279 P) (lf (o535 P)) .nil) (lf (o407 P))) (.node (o215 P) (lf (o343 P)) (lf (o471 P)))) (.node (o119 P) (.node (o183 P) (.node (o311 P) (lf (o567 P)) .nil) (lf (o439 P))) (.node (o247 P) (lf (o375 P)) (lf (o503 P))))))) (.node (o11 P) (.node (o19 P) (.node (o35 P) (.node (o67 P) (.node (o131 P) (.node (o259 P) (lf (o515 P)) .nil) (lf (o387 P))) (.node (o195 P) (lf (o323 P)) (lf (o451 P)))) (.node (o99 P) (.node (o163 P) (.node (o291 P) (lf (o547 P)) .nil) (lf (o419 P))) (.node (o227 P) (lf (o355 P)) (lf (o483 P))))) (.node (o51 P) (.node (o83 P) (.node (o147 P) (.node (o275 P) (lf (o531 P)) .nil) (lf (o403 P))) (.node (o211 P) (lf (o339 P)) (lf (o467 P)))) (.node (o115 P) (.node (o179 P) (.node (o307 P) (lf (o563 P)) .nil) (lf (o435 P))) (.node (o243 P) (lf (o371 P)) (lf (o499 P)))))) (.node (o27 P) (.node (o43 P) (.node (o75 P) (.node (o139 P) (.node (o267 P) (lf (o523 P)) .nil) (lf (o395 P))) (.node (o203 P) (lf (o331 P)) (lf (o459 P)))) (.node (o107 P) (.node (o171 P) (.node (o299 P) (lf (o555 P)) .nil) (lf (o427 P))) (.node (o235 P) (lf (o363 P)) (lf (o491 P))))) (.node (o59 P) (.node (o91 P) (.node (o155 P) (.node (o283 P) (lf (o539 P)) .nil) (lf (o411 P))) (.node (o219 P) (lf (o347 P)) (lf (o475 P)))) (.node (o123 P) (.node (o187 P) (.node (o315 P) (lf (o571 P)) .nil) (lf (o443 P))) (.node (o251 P) (lf (o379 P)) (lf (o507 P)))))))) (.node (o5 P) (.node (o9 P) (.node (o17 P) (.node (o33 P) (.node (o65 P) (.node (o129 P) (.node (o257 P) (lf (o513 P)) .nil) (lf (o385 P))) (.node (o193 P) (lf (o321 P)) (lf (o449 P)))) (.node (o97 P) (.node (o161 P) (.node (o289 P) (lf (o545 P)) .nil) (lf (o417 P))) (.node (o225 P) (lf (o353 P)) (lf (o481 P))))) (.node (o49 P) (.node (o81 P) (.node (o145 P) (.node (o273 P) (lf (o529 P)) .nil) (lf (o401 P))) (.node (o209 P) (lf (o337 P)) (lf (o465 P)))) (.node (o113 P) (.node (o177 P) (.node (o305 P) (lf (o561 P)) .nil) (lf (o433 P))) (.node (o241 P) (lf (o369 P)) (lf (o497 P)))))) (.node (o25 P) (.node (o41 P) (.node (o73 P) (.node (o137 P) (.node (o265 P) (lf (o521 P)) .nil) (lf (o393 P))) (.node (o201 P) (lf (o329 P)) (lf (o457 P)))) (.node (o105 P) (.node (o169 P) (.node (o297 P) (lf (o553 P)) .nil) (lf (o425 P))) (.node (o233 P) (lf (o361 P)) (lf (o489 P))))) (.node (o57 P) (.node (o89 P) (.node (o153 P) (.node (o281 P) (lf (o537 P)) .nil) (lf (o409 P))) (.node (o217 P) (lf (o345 P)) (lf (o473 P)))) (.node (o121 P) (.node (o185 P) (.node (o313 P) (lf (o569 P)) .nil) (lf (o441 P))) (.node (o249 P) (lf (o377 P)) (lf (o505 P))))))) (.node (o13 P) (.node (o21 P) (.node (o37 P) (.node (o69 P) (.node (o133 P) (.node (o261 P) (lf (o517 P)) .nil) (lf (o389 P))) (.node (o197 P) (lf (o325 P)) (lf (o453 P)))) (.node (o101 P) (.node (o165 P) (.node (o293 P) (lf (o549 P)) .nil) (lf (o421 P))) (.node (o229 P) (lf (o357 P)) (lf (o485 P))))) (.node (o53 P) (.node (o85 P) (.node (o149 P) (.node (o277 P) (lf (o533 P)) .nil) (lf (o405 P))) (.node (o213 P) (lf (o341 P)) (lf (o469 P)))) (.node (o117 P) (.node (o181 P) (.node (o309 P) (lf (o565 P)) .nil) (lf (o437 P))) (.node (o245 P) (lf (o373 P)) (lf (o501 P)))))) (.node (o29 P) (.node (o45 P) (.node (o77 P) (.node (o141 P) (.node (o269 P) (lf (o525 P)) .nil) (lf (o397 P))) (.node (o205 P) (lf (o333 P)) (lf (o461 P)))) (.node (o109 P) (.node (o173 P) (.node (o301 P) (lf (o557 P)) .nil) (lf (o429 P))) (.node (o237 P) (lf (o365 P)) (lf (o493 P))))) (.node (o61 P) (.node (o93 P) (.node (o157 P) (.node (o285 P) (lf (o541 P)) .nil) (lf (o413 P))) (.node (o221 P) (lf (o349 P)) (lf (o477 P)))) (.node (o125 P) (.node (o189 P) (.node (o317 P) (lf (o573 P)) .nil) (lf (o445 P))) (.node (o253 P) (lf (o381 P)) (lf (o509 P))))))))) (.node (o2 P) (.node (o4 P) (.node (o8 P) (.node (o16 P) (.node (o32 P) (.node (o64 P) (.node (o128 P) (.node (o256 P) (lf (o512 P)) .nil) (lf (o384 P))) (.node (o192 P) (lf (o320 P)) (lf (o448 P)))) (.node (o96 P) (.node (o160 P) (.node (o288 P) (lf (o544 P)) .nil) (lf (o416 P))) (.node (o224 P) (lf (o352 P)) (lf (o480 P))))) (.node (o48 P) (.node (o80 P) (.node (o144 P) (.node (o272 P) (lf (o528 P)) .nil) (lf (o400 P))) (.node (o208 P) (lf (o336 P)) (lf (o464 P)))) (.node (o112 P) (.node (o176 P) (.node (o304 P) (lf (o560 P)) .nil) (lf (o432 P))) (.node (o240 P) (lf (o368 P)) (lf (o496 P)))))) (.node (o24 P) (.node (o40 P) (.node (o72 P) (.node (o136 P) (.node (o264 P) (lf (o520 P)) .nil) (lf (o392 P))) (.node (o200 P) (lf (o328 P)) (lf (o456 P)))) (.node (o104 P) (.node (o168 P) (.node (o296 P) (lf (o552 P)) .nil) (lf (o424 P))) (.node (o232 P) (lf (o360 P)) (lf (o488 P))))) (.node (o56 P) (.node (o88 P) (.node (o152 P) (.node (o280 P) (lf (o536 P)) .nil) (lf (o408 P))) (.node (o216 P) (lf (o344 P)) (lf (o472 P)))) (.node (o120 P) (.node (o184 P) (.node (o312 P) (lf (o568 P)) .nil) (lf (o440 P))) (.node (o248 P) (lf (o376 P)) (lf (o504 P))))))) (.node (v10_12 P) (.node (o20 P) (.node (o36 P) (.node (o68 P) (.node (o132 P) (.node (o260 P) (lf (o516 P)) .nil) (lf (o388 P))) (.node (o196 P) (lf (o324 P)) (lf (o452 P)))) (.node (o100 P) (.node (o164 P) (.node (o292 P) (lf (o548 P)) .nil) (lf (o420 P))) (.node (o228 P) (lf (o356 P)) (lf (o484 P))))) (.node (o52 P) (.node (o84 P) (.node (o148 P) (.node (o276 P) (lf (o532 P)) .nil) (lf (o404 P))) (.node (o212 P) (lf (o340 P)) (lf (o468 P)))) (.node (o116 P) (.node (o180 P) (.node (o308 P) (lf (o564 P)) .nil) (lf (o436 P))) (.node (o244 P) (lf (o372 P)) (lf (o500 P)))))) (.node (o28 P) (.node (o44 P) (.node (o76 P) (.node (o140 P) (.node (o268 P) (lf (o524 P)) .nil) (lf (o396 P))) (.node (o204 P) (lf (o332 P)) (lf (o460 P)))) (.node (o108 P) (.node (o172 P) (.node (o300 P) (lf (o556 P)) .nil) (lf (o428 P))) (.node (o236 P) (lf (o364 P)) (lf (o492 P))))) (.node (o60 P) (.node (o92 P) (.node (o156 P) (.node (o284 P) (lf (o540 P)) .nil) (lf (o412 P))) (.node (o220 P) (lf (o348 P)) (lf (o476 P)))) (.node (o124 P) (.node (o188 P) (.node (o316 P) (lf (o572 P)) .nil) (lf (o444 P))) (.node (o252 P) (lf (o380 P)) (lf (o508 P)))))))) (.node (o6 P) (.node (o10 P) (.node (o18 P) (.node (o34 P) (.node (o66 P) (.node (o130 P) (.node (o258 P) (lf (o514 P)) .nil) (lf (o386 P))) (.node (o194 P) (lf (o322 P)) (lf (o450 P)))) (.node (o98 P) (.node (o162 P) (.node (o290 P) (lf (o546 P)) .nil) (lf (o418 P))) (.node (o226 P) (lf (o354 P)) (lf (o482 P))))) (.node (o50 P) (.node (o82 P) (.node (o146 P) (.node (o274 P) (lf (o530 P)) .nil) (lf (o402 P))) (.node (o210 P) (lf (o338 P)) (lf (o466 P)))) (.node (o114 P) (.node (o178 P) (.node (o306 P) (lf (o562 P)) .nil) (lf (o434 P))) (.node (o242 P) (lf (o370 P)) (lf (o498 P)))))) (.node (o26 P) (.node (o42 P) (.node (o74 P) (.node (o138 P) (.node (o266 P) (lf (o522 P)) .nil) (lf (o394 P))) (.node (o202 P) (lf (o330 P)) (lf (o458 P)))) (.node (o106 P) (.node (o170 P) (.node (o298 P) (lf (o554 P)) .nil) (lf (o426 P))) (.node (o234 P) (lf (o362 P)) (lf (o490 P))))) (.node (o58 P) (.node (o90 P) (.node (o154 P) (.node (o282 P) (lf (o538 P)) .nil) (lf (o410 P))) (.node (o218 P) (lf (o346 P)) (lf (o474 P)))) (.node (o122 P) (.node (o186 P) (.node (o314 P) (lf (o570 P)) .nil) (lf (o442 P))) (.node (o250 P) (lf (o378 P)) (lf (o506 P))))))) (.node (o14 P) (.node (o22 P) (.node (o38 P) (.node (o70 P) (.node (o134 P) (.node (o262 P) (lf (o518 P)) .nil) (lf (o390 P))) (.node (o198 P) (lf (o326 P)) (lf (o454 P)))) (.node (o102 P) (.node (o166 P) (.node (o294 P) (lf (o550 P)) .nil) (lf (o422 P))) (.node (o230 P) (lf (o358 P)) (lf (o486 P))))) (.node (o54 P) (.node (o86 P) (.node (o150 P) (.node (o278 P) (lf (o534 P)) .nil) (lf (o406 P))) (.node (o214 P) (lf (o342 P)) (lf (o470 P)))) (.node (o118 P) (.node (o182 P) (.node (o310 P) (lf (o566 P)) .nil) (lf (o438 P))) (.node (o246 P) (lf (o374 P)) (lf (o502 P)))))) (.node (o30 P) (.node (o46 P) (.node (o78 P) (.node (o142 P) (.node (o270 P) (lf (o526 P)) .nil) (lf (o398 P))) (.node (o206 P) (lf (o334 P)) (lf (o462 P)))) (.node (o110 P) (.node (o174 P) (.node (o302 P) (lf (o558 P)) .nil) (lf (o430 P))) (.node (o238 P) (lf (o366 P)) (lf (o494 P))))) (.node (o62 P) (.node (o94 P) (.node (o158 P) (.node (o286 P) (lf (o542 P)) .nil) (lf (o414 P))) (.node (o222 P) (lf (o350 P)) (lf (o478 P)))) (.node (o126 P) (.node (o190 P) (lf (o318 P)) (lf (o446 P))) (.node (o254 P) (lf (o382 P)) (lf (o510 P))))))))))
noncomputable def S10 (w : World) (os : OsState) : SharedT := ⟨t10 w.params, 574, {}, #[], {}, 947, os⟩
noncomputable def v11_3 (P : Params) : Obj := ⟨(.type "dict"), none, (.dict #[en P s0 165 (.str s163 1024), q_0 P, q_1 P, q_2 P, q_3 P, q_4 P, q_5 P, q_6 P, q_7 P, q_8 P, q_9 P, q_10 P, q_11 P, q_12 P, q_13 P, q_14 P, q_15 P, q_16 P, q_17 P, q_18 P, q_19 P, q_20 P, q_21 P, q_22 P, q_23 P, q_24 P, q_25 P, q_26 P, q_27 P, q_28 P, q_29 P, q_30 P, q_31 P, q_32 P, q_33 P, q_34 P, q_35 P, q_36 P, q_37 P, q_38 P, q_39 P, q_40 P, q_41 P, q_42 P, q_43 P, q_44 P, q_45 P, q_46 P, q_47 P, q_48 P, q_49 P, q_50 P, q_51 P, q_52 P, q_53 P, q_54 P, q_55 P, q_56 P, q_57 P, q_58 P, q_59 P, q_60 P, q_61 P, q_62 P, q_63 P, q_64 P, q_65 P, q_66 P, q_67 P, q_68 P, q_69 P, q_70 P, q_71 P, q_72 P, q_73 P, q_74 P, q_75 P, q_76 P, q_77 P, q_78 P, q_79 P, q_80 P, q_81 P, q_82 P, q_83 P, q_84 P, q_85 P, q_86 P, en P s248 954 (.ref 580), en P s249 970 (.ref 587), en P s250 979 (.ref 594), en P s251 991 (.ref 601), en P s252 1003 (.ref 608), en P s253 1011 (.ref 615), en P s254 1017 (.ref 620), en P s255 1023 (.ref 625), en P s256 1033 (.ref 632), en P s257 1040 (.ref 639), en P s258 1046 (.ref 644), en P s259 1052 (.ref 649), en P s260 1060 (.ref 656)] 101), #[]⟩
noncomputable def v11_12 (P : Params) : Obj := ⟨.none, none, (.fields #[(.int 1 0), (.int 0 0), (.ref 20), (.int 5 0), (.int 0 0), (.ref 27), (.int 9 0), (.int 0 0), (.ref 32), (.int 25 0), (.int 0 0), (.ref 39), (.int 30 0), (.int 0 0), (.ref 44), (.int 36 0), (.int 0 0), (.ref 51), (.int 38 0), (.int 0 0), (.ref 64), (.int 48 0), (.int 0 0), (.ref 86), (.int 52 0), (.int 0 0), (.ref 93), (.int 56 0), (.int 0 0), (.ref 100), (.int 66 0), (.int 0 0), (.ref 107), (.int 70 0), (.int 0 0), (.ref 114), (.int 72 0), (.int 0 0), (.ref 121), (.int 74 0), (.int 0 0), (.ref 128), (.int 78 0), (.int 0 0), (.ref 135), (.int 83 0), (.int 0 0), (.ref 142), (.int 89 0), (.int 0 0), (.ref 149), (.int 103 0), (.int 0 0), (.ref 156), (.int 114 0), (.int 0 0), (.ref 163), (.int 122 0), (.int 0 0), (.ref 170), (.int 127 0), (.int 0 0), (.ref 177), (.int 136 0), (.int 0 0), (.ref 184), (.int 141 0), (.int 0 0), (.ref 191), (.int 148 0), (.int 0 0), (.ref 198), (.int 156 0), (.int 0 0), (.ref 205), (.int 163 0), (.int 0 0), (.ref 212), (.int 183 0), (.int 0 0), (.ref 219), (.int 190 0), (.int 0 0), (.ref 224), (.int 194 0), (.int 0 0), (.ref 232), (.int 196 0), (.int 0 0), (.ref 239), (.int 201 0), (.int 0 0), (.ref 246), (.int 205 0), (.int 0 0), (.ref 253), (.int 215 0), (.int 0 0), (.ref 260), (.int 225 0), (.int 0 0), (.ref 267), (.int 259 0), (.int 0 0), (.ref 274), (.int 278 0), (.int 0 0), (.ref 281), (.int 283 0), (.int 0 0), (.ref 302), (.int 294 0), (.int 0 0), (.ref 331), (.int 300 0), (.int 0 0), (.ref 352), (.int 304 0), (.int 0 0), (.ref 359), (.int 306 0), (.int 0 0), (.ref 366), (.int 308 0), (.int 0 0), (.ref 373), (.int 312 0), (.int 0 0), (.ref 380), (.int 323 0), (.int 0 0), (.ref 387), (.int 325 0), (.int 0 0), (.ref 394), (.int 327 0), (.int 0 0), (.ref 401), (.int 333 0), (.int 0 0), (.ref 408), (.int 338 0), (.int 0 0), (.ref 415), (.int 344 0), (.int 0 0), (.ref 422), (.int 347 0), (.int 0 0), (.ref 429), (.int 353 0), (.int 0 0), (.ref 436), (.int 361 0), (.int 0 0), (.ref 443), (.int 367 0), (.int 0 0), (.ref 450), (.int 377 0), (.int 0 0), (.ref 457), (.int 385 0), (.int 0 0), (.ref 464), (.int 391 0), (.int 0 0), (.ref 471), (.int 399 0), (.int 0 0), (.ref 478), (.int 413 0), (.int 0 0), (.ref 485), (.int 415 0), (.int 0 0), (.ref 492), (.int 421 0), (.int 0 0), (.ref 499), (.int 423 0), (.int 0 0), (.ref 504), (.int 437 0), (.int 0 0), (.ref 511), (.int 441 0), (.int 0 0), (.ref 516), (.int 450 0), (.int 0 0), (.ref 523), (.int 456 0), (.int 0 0), (.ref 544), (.int 458 0), (.int 0 0), (.ref 551), (.int 469 0), (.int 0 0), (.ref 558), (.int 471 0), (.int 0 0), (.ref 565), (.int 477 0), (.int 0 0), (.ref 572), (.int 483 0), (.int 0 0), (.ref 579), (.int 488 0), (.int 0 0), (.ref 586), (.int 510 0), (.int 0 0), (.ref 593), (.int 520 0), (.int 0 0), (.ref 600), (.int 530 0), (.int 0 0), (.ref 607), (.int 541 0), (.int 0 0), (.ref 614), (.int 545 0), (.int 0 0), (.ref 619), (.int 564 0), (.int 0 0), (.ref 624), (.int 570 0), (.int 0 0), (.ref 631), (.int 575 0), (.int 0 0), (.ref 638), (.int 577 0), (.int 0 0), (.ref 643), (.int 592 0), (.int 0 0), (.ref 648), (.int 601 0), (.int 0 0), (.ref 655)]), #[]⟩
noncomputable def t11 (P : Params) : BT := (.node (o0 P) (.node (o1 P) (.node (v11_3 P) (.node (o7 P) (.node (o15 P) (.node (o31 P) (.node (o63 P) (.node (o127 P) (.node (o255 P) (lf (o511 P)) .nil) (.node (o383 P) (lf (o639 P)) .nil)) (.node (o191 P) (.node (o319 P) (lf (o575 P)) .nil) (lf (o447 P)))) (.node (o95 P) (.node (o159 P) (.node (o287 P) (lf (o543 P)) .nil) (lf (o415 P))) (.node (o223 P) (.node (o351 P) (lf (o607 P)) .nil) (lf (o479 P))))) (.node (o47 P) (.node (o79 P) (.node (o143 P) (.node (o271 P) (lf (o527 P)) .nil) (.node (o399 P) (lf (o655 P)) .nil)) (.node (o207 P) (.node (o335 P) (lf (o591 P)) .nil) (lf (o463 P)))) (.node (o111 P) (.node (o175 P) (.node (o303 P) (lf (o559 P)) .nil) (lf (o431 P))) (.node (o239 P) (.node (o367 P) (lf (o623 P)) .nil) (lf (o495 P)))))) (.node (o23 P) (.node (o39 P) (.node (o71 P) (.node (o135 P) (.node (o263 P) (lf (o519 P)) .nil) (.node (o391 P) (lf (o647 P)) .nil)) (.node (o199 P) (.node (o327 P) (lf (o583 P)) .nil) (lf (o455 P)))) (.node (o103 P) (.node (o167 P) (.node (o295 P) (lf (o551 P)) .nil) (lf (o423 P))) (.node (o231 P) (.node (o359 P) (lf (o615 P)) .nil) (lf (o487 P))))) (.node (o55 P) (.node (o87 P) (.node (o151 P) (.node (o279 P) (lf (o535 P)) .nil) (lf (o407 P))) (.node (o215 P) (.node (o343 P) (lf (o599 P)) .nil) (lf (o471 P)))) (.node (o119 P) (.node (o183 P) (.node (o311 P) (lf (o567 P)) .nil) (lf (o439 P))) (.node (o247 P) (.node (o375 P) (lf (o631 P)) .nil) (lf (o503 P))))))) (.node (o11 P) (.node (o19 P) (.node (o35 P) (.node (o67 P) (.node (o131 P) (.node (o259 P) (lf (o515 P)) .nil) (.node (o387 P) (lf (o643 P)) .nil)) (.node (o195 P) (.node (o323 P) (lf (o579 P)) .nil) (lf (o451 P)))) (.node (o99 P) (.node (o163 P) (.node (o291 P) (lf (o547 P)) .nil) (lf (o419 P))) (.node (o227 P) (.node (o355 P) (lf (o611 P)) .nil) (lf (o483 P))))) (.node (o51 P) (.node (o83 P) (.node (o147 P) (.node (o275 P) (lf (o531 P)) .nil) (lf (o403 P))) (.node (o211 P) (.node (o339 P) (lf (o595 P)) .nil) (lf (o467 P)))) (.node (o115 P) (.node (o179 P) (.node (o307 P) (lf (o563 P)) .nil) (lf (o435 P))) (.node (o243 P) (.node (o371 P) (lf (o627 P)) .nil) (lf (o499 P)))))) (.node (o27 P) (.node (o43 P) (.node (o75 P) (.node (o139 P) (.node (o267 P) (lf (o523 P)) .nil) (.node (o395 P) (lf (o651 P)) .nil)) (.node (o203 P) (.node (o331 P) (lf (o587 P)) .nil) (lf (o459 P)))) (.node (o107 P) (.node (o171 P) (.node (o299 P) (lf (o555 P)) .nil) (lf (o427 P))) (.node (o235 P) (.node (o363 P) (lf (o619 P)) .nil) (lf (o491 P))))) (.node (o59 P) (.node (o91 P) (.node (o155 P) (.node (o283 P) (lf (o539 P)) .nil) (lf (o411 P))) (.node (o219 P) (.node (o347 P) (lf (o603 P)) .nil) (lf (o475 P)))) (.node (o123 P) (.node (o187 P) (.node (o315 P) (lf (o571 P)) .nil) (lf (o443 P))) (.node (o251 P) (.node (o379 P) (lf (o635 P)) .nil) (lf (o507 P)))))))) (.node (o5 P) (.node (o9 P) (.node (o17 P) (.node (o33 P) (.node (o65 P) (.node (o129 P) (.node (o257 P) (lf (o513 P)) .nil) (.node (o385 P) (lf (o641 P)) .nil)) (.node (o193 P) (.node (o321 P) (lf (o577 P)) .nil) (lf (o449 P)))) (.node (o97 P) (.node (o161 P) (.node (o289 P) (lf (o545 P)) .nil) (lf (o417 P))) (.node (o225 P) (.node (o353 P) (lf (o609 P)) .nil) (lf (o481 P))))) (.node (o49 P) (.node (o81 P) (.node (o145 P) (.node (o273 P) (lf (o529 P)) .nil) (lf (o401 P))) (.node (o209 P) (.node (o337 P) (lf (o593 P)) .nil) (lf (o465 P)))) (.node (o113 P) (.node (o177 P) (.node (o305 P) (lf (o561 P)) .nil) (lf (o433 P))) (.node (o241 P) (.node (o369 P) (lf (o625 P)) .nil) (lf (o497 P)))))) (.node (o25 P) (.node (o41 P) (.node (o73 P) (.node (o137 P) (.node (o265 P) (lf (o521 P)) .nil) (.node (o393 P) (lf (o649 P)) .nil)) (.node (o201 P) (.node (o329 P) (lf (o585 P)) .nil) (lf (o457 P)))) (.node (o105 P) (.node (o169 P) (.node (o297 P) (lf (o553 P)) .nil) (lf (o425 P))) (.node (o233 P) (.node (o361 P) (lf (o617 P)) .nil) (lf (o489 P))))) (.node (o57 P) (.node (o89 P) (.node (o153 P) (.node (o281 P) (lf (o537 P)) .nil) (lf (o409 P))) (.node (o217 P) (.node (o345 P) (lf (o601 P)) .nil) (lf (o473 P)))) (.node (o121 P) (.node (o185 P) (.node (o313 P) (lf (o569 P)) .nil) (lf (o441 P))) (.node (o249 P) (.node (o377 P) (lf (o633 P)) .nil) (lf (o505 P))))))) (.node (o13 P) (.node (o21 P) (.node (o37 P) (.node (o69 P) (.node (o133 P) (.node (o261 P) (lf (o517 P)) .nil) (.node (o389 P) (lf (o645 P)) .nil)) (.node (o197 P) (.node (o325 P) (lf (o581 P)) .nil) (lf (o453 P)))) (.node (o101 P) (.node (o165 P) (.node (o293 P) (lf (o549 P)) .nil) (lf (o421 P))) (.node (o229 P) (.node (o357 P) (lf (o613 P)) .nil) (lf (o485 P))))) (.node (o53 P) (.node (o85 P) (.node (o149 P) (.node (o277 P) (lf (o533 P)) .nil) (lf (o405 P))) (.node (o213 P) (.node (o341 P) (lf (o597 P)) .nil) (lf (o469 P)))) (.node (o117 P) (.node (o181 P) (.node (o309 P) (lf (o565 P)) .nil) (lf (o437 P))) (.node (o245 P) (.node (o373 P) (lf (o629 P)) .nil) (lf (o501 P)))))) (.node (o29 P) (.node (o45 P) (.node (o77 P) (.node (o141 P) (.node (o269 P) (lf (o525 P)) .nil) (.node (o397 P) (lf (o653 P)) .nil)) (.node (o205 P) (.node (o333 P) (lf (o589 P)) .nil) (lf (o461 P)))) (.node (o109 P) (.node (o173 P) (.node (o301 P) (lf (o557 P)) .nil) (lf (o429 P))) (.node (o237 P) (.node (o365 P) (lf (o621 P)) .nil) (lf (o493 P))))) (.node (o61 P) (.node (o93 P) (.node (o157 P) (.node (o285 P) (lf (o541 P)) .nil) (lf (o413 P))) (.node (o221 P) (.node (o349 P) (lf (o605 P)) .nil) (lf (o477 P)))) (.node (o125 P) (.node (o189 P) (.node (o317 P) (lf (o573 P)) .nil) (lf (o445 P))) (.node (o253 P) (.node (o381 P) (lf (o637 P)) .nil) (lf (o509 P))))))))) (.node (o2 P) (.node (o4 P) (.node (o8 P) (.node (o16 P) (.node (o32 P) (.node (o64 P) (.node (o128 P) (.node (o256 P) (lf (o512 P)) .nil) (.node (o384 P) (lf (o640 P)) .nil)) (.node (o192 P) (.node (o320 P) (lf (o576 P)) .nil) (lf (o448 P)))) (.node (o96 P) (.node (o160 P) (.node (o288 P) (lf (o544 P)) .nil) (lf (o416 P))) (.node (o224 P) (.node (o352 P) (lf (o608 P)) .nil) (lf (o480 P))))) (.node (o48 P) (.node (o80 P) (.node (o144 P) (.node (o272 P) (lf (o528 P)) .nil) (.node (o400 P) (lf (o656 P)) .nil)) (.node (o208 P) (.node (o336 P) (lf (o592 P)) .nil) (lf (o464 P)))) (.node (o112 P) (.node (o176 P) (.node (o304 P) (lf (o560 P)) .nil) (lf (o432 P))) (.node (o240 P) (.node (o368 P) (lf (o624 P)) .nil) (lf (o496 P)))))) (.node (o24 P) (.node (o40 P) (.node (o72 P) (.node (o136 P) (.node (o264 P) (lf (o520 P)) .nil) (.node (o392 P) (lf (o648 P)) .nil)) (.node (o200 P) (.node (o328 P) (lf (o584 P)) .nil) (lf (o456 P)))) (.node (o104 P) (.node (o168 P) (.node (o296 P) (lf (o552 P)) .nil) (lf (o424 P))) (.node (o232 P) (.node (o360 P) (lf (o616 P)) .nil) (lf (o488 P))))) (.node (o56 P) (.node (o88 P) (.node (o152 P) (.node (o280 P) (lf (o536 P)) .nil) (lf (o408 P))) (.node (o216 P) (.node (o344 P) (lf (o600 P)) .nil) (lf (o472 P)))) (.node (o120 P) (.node (o184 P) (.node (o312 P) (lf (o568 P)) .nil) (lf (o440 P))) (.node (o248 P) (.node (o376 P) (lf (o632 P)) .nil) (lf (o504 P))))))) (.node (v11_12 P) (.node (o20 P) (.node (o36 P) (.node (o68 P) (.node (o132 P) (.node (o260 P) (lf (o516 P)) .nil) (.node (o388 P) (lf (o644 P)) .nil)) (.node (o196 P) (.node (o324 P) (lf (o580 P)) .nil) (lf (o452 P)))) (.node (o100 P) (.node (o164 P) (.node (o292 P) (lf (o548 P)) .nil) (lf (o420 P))) (.node (o228 P) (.node (o356 P) (lf (o612 P)) .nil) (lf (o484 P))))) (.node (o52 P) (.node (o84 P) (.node (o148 P) (.node (o276 P) (lf (o532 P)) .nil) (lf (o404 P))) (.node (o212 P) (.node (o340 P) (lf (o596 P)) .nil) (lf (o468 P)))) (.node (o116 P) (.node (o180 P) (.node (o308 P) (lf (o564 P)) .nil) (lf (o436 P))) (.node (o244 P) (.node (o372 P) (lf (o628 P)) .nil) (lf (o500 P)))))) (.node (o28 P) (.node (o44 P) (.node (o76 P) (.node (o140 P) (.node (o268 P) (lf (o524 P)) .nil) (.node (o396 P) (lf (o652 P)) .nil)) (.node (o204 P) (.node (o332 P) (lf (o588 P)) .nil) (lf (o460 P)))) (.node (o108 P) (.node (o172 P) (.node (o300 P) (lf (o556 P)) .nil) (lf (o428 P))) (.node (o236 P) (.node (o364 P) (lf (o620 P)) .nil) (lf (o492 P))))) (.node (o60 P) (.node (o92 P) (.node (o156 P) (.node (o284 P) (lf (o540 P)) .nil) (lf (o412 P))) (.node (o220 P) (.node (o348 P) (lf (o604 P)) .nil) (lf (o476 P)))) (.node (o124 P) (.node (o188 P) (.node (o316 P) (lf (o572 P)) .nil) (lf (o444 P))) (.node (o252 P) (.node (o380 P) (lf (o636 P)) .nil) (lf (o508 P)))))))) (.node (o6 P) (.node (o10 P) (.node (o18 P) (.node (o34 P) (.node (o66 P) (.node (o130 P) (.node (o258 P) (lf (o514 P)) .nil) (.node (o386 P) (lf (o642 P)) .nil)) (.node (o194 P) (.node (o322 P) (lf (o578 P)) .nil) (lf (o450 P)))) (.node (o98 P) (.node (o162 P) (.node (o290 P) (lf (o546 P)) .nil) (lf (o418 P))) (.node (o226 P) (.node (o354 P) (lf (o610 P)) .nil) (lf (o482 P))))) (.node (o50 P) (.node (o82 P) (.node (o146 P) (.node (o274 P) (lf (o530 P)) .nil) (lf (o402 P))) (.node (o210 P) (.node (o338 P) (lf (o594 P)) .nil) (lf (o466 P)))) (.node (o114 P) (.node (o178 P) (.node (o306 P) (lf (o562 P)) .nil) (lf (o434 P))) (.node (o242 P) (.node (o370 P) (lf (o626 P)) .nil) (lf (o498 P)))))) (.node (o26 P) (.node (o42 P) (.node (o74 P) (.node (o138 P) (.node (o266 P) (lf (o522 P)) .nil) (.node (o394 P) (lf (o650 P)) .nil)) (.node (o202 P) (.node (o330 P) (lf (o586 P)) .nil) (lf (o458 P)))) (.node (o106 P) (.node (o170 P) (.node (o298 P) (lf (o554 P)) .nil) (lf (o426 P))) (.node (o234 P) (.node (o362 P) (lf (o618 P)) .nil) (lf (o490 P))))) (.node (o58 P) (.node (o90 P) (.node (o154 P) (.node (o282 P) (lf (o538 P)) .nil) (lf (o410 P))) (.node (o218 P) (.node (o346 P) (lf (o602 P)) .nil) (lf (o474 P)))) (.node (o122 P) (.node (o186 P) (.node (o314 P) (lf (o570 P)) .nil) (lf (o442 P))) (.node (o250 P) (.node (o378 P) (lf (o634 P)) .nil) (lf (o506 P))))))) (.node (o14 P) (.node (o22 P) (.node (o38 P) (.node (o70 P) (.node (o134 P) (.node (o262 P) (lf (o518 P)) .nil) (.node (o390 P) (lf (o646 P)) .nil)) (.node (o198 P) (.node (o326 P) (lf (o582 P)) .nil) (lf (o454 P)))) (.node (o102 P) (.node (o166 P) (.node (o294 P) (lf (o550 P)) .nil) (lf (o422 P))) (.node (o230 P) (.node (o358 P) (lf (o614 P)) .nil) (lf (o486 P))))) (.node (o54 P) (.node (o86 P) (.node (o150 P) (.node (o278 P) (lf (o534 P)) .nil) (lf (o406 P))) (.node (o214 P) (.node (o342 P) (lf (o598 P)) .nil) (lf (o470 P)))) (.node (o118 P) (.node (o182 P) (.node (o310 P) (lf (o566 P)) .nil) (lf (o438 P))) (.node (o246 P) (.node (o374 P) (lf (o630 P)) .nil) (lf (o502 P)))))) (.node (o30 P) (.node (o46 P) (.node (o78 P) (.node (o142 P) (.node (o270 P) (lf (o526 P)) .nil) (.node (o398 P) (lf (o654 P)) .nil)) (.node (o206 P) (.node (o334 P) (lf (o590 P)) .nil) (lf (o462 P)))) (.node (o110 P) (.node (o174 P) (.node (o302 P) (lf (o558 P)) .nil) (lf (o430 P))) (.node (o238 P) (.node (o366 P) (lf (o622 P)) .nil) (lf (o494 P))))) (.node (o62 P) (.node (o94 P) (.node (o158 P) (.node (o286 P) (lf (o542 P)) .nil) (lf (o414 P))) (.node (o222 P) (.node (o350 P) (lf (o606 P)) .nil) (lf (o478 P)))) (.node (o126 P) (.node (o190 P) (.node (o318 P) (lf (o574 P)) .nil) (lf (o446 P))) (.node (o254 P) (.node (o382 P) (lf (o638 P)) .nil) (lf (o510 P))))))))))
noncomputable def S11 (w : World) (os : OsState) : SharedT := ⟨t11 w.params, 657, {}, #[], {}, 1061, os⟩
noncomputable def t12 (P : Params) : BT := (.node (o0 P) (.node (o1 P) (.node (o3 P) (.node (o7 P) (.node (o15 P) (.node (o31 P) (.node (o63 P) (.node (o127 P) (.node (o255 P) (lf (o511 P)) .nil) (.node (o383 P) (lf (o639 P)) .nil)) (.node (o191 P) (.node (o319 P) (lf (o575 P)) .nil) (lf (o447 P)))) (.node (o95 P) (.node (o159 P) (.node (o287 P) (lf (o543 P)) .nil) (.node (o415 P) (lf (o671 P)) .nil)) (.node (o223 P) (.node (o351 P) (lf (o607 P)) .nil) (lf (o479 P))))) (.node (o47 P) (.node (o79 P) (.node (o143 P) (.node (o271 P) (lf (o527 P)) .nil) (.node (o399 P) (lf (o655 P)) .nil)) (.node (o207 P) (.node (o335 P) (lf (o591 P)) .nil) (lf (o463 P)))) (.node (o111 P) (.node (o175 P) (.node (o303 P) (lf (o559 P)) .nil) (.node (o431 P) (lf (o687 P)) .nil)) (.node (o239 P) (.node (o367 P) (lf (o623 P)) .nil) (lf (o495 P)))))) (.node (o23 P) (.node (o39 P) (.node (o71 P) (.node (o135 P) (.node (o263 P) (lf (o519 P)) .nil) (.node (o391 P) (lf (o647 P)) .nil)) (.node (o199 P) (.node (o327 P) (lf (o583 P)) .nil) (lf (o455 P)))) (.node (o103 P) (.node (o167 P) (.node (o295 P) (lf (o551 P)) .nil) (.node (o423 P) (lf (o679 P)) .nil)) (.node (o231 P) (.node (o359 P) (lf (o615 P)) .nil) (lf (o487 P))))) (.node (o55 P) (.node (o87 P) (.node (o151 P) (.node (o279 P) (lf (o535 P)) .nil) (.node (o407 P) (lf (o663 P)) .nil)) (.node (o215 P) (.node (o343 P) (lf (o599 P)) .nil) (lf (o471 P)))) (.node (o119 P) (.node (o183 P) (.node (o311 P) (lf (o567 P)) .nil) (.node (o439 P) (lf (o695 P)) .nil)) (.node (o247 P) (.node (o375 P) (lf (o631 P)) .nil) (lf (o503 P))))))) (.node (o11 P) (.node (o19 P) (.node (o35 P) (.node (o67 P) (.node (o131 P) (.node (o259 P) (lf (o515 P)) .nil) (.node (o387 P) (lf (o643 P)) .nil)) (.node (o195 P) (.node (o323 P) (lf (o579 P)) .nil) (lf (o451 P)))) (.node (o99 P) (.node (o163 P) (.node (o291 P) (lf (o547 P)) .nil) (.node (o419 P) (lf (o675 P)) .nil)) (.node (o227 P) (.node (o355 P) (lf (o611 P)) .nil) (lf (o483 P))))) (.node (o51 P) (.node (o83 P) (.node (o147 P) (.node (o275 P) (lf (o531 P)) .nil) (.node (o403 P) (lf (o659 P)) .nil)) (.node (o211 P) (.node (o339 P) (lf (o595 P)) .nil) (lf (o467 P)))) (.node (o115 P) (.node (o179 P) (.node (o307 P) (lf (o563 P)) .nil) (.node (o435 P) (lf (o691 P)) .nil)) (.node (o243 P) (.node (o371 P) (lf (o627 P)) .nil) (lf (o499 P)))))) (.node (o27 P) (.node (o43 P) (.node (o75 P) (.node (o139 P) (.node (o267 P) (lf (o523 P)) .nil) (.node (o395 P) (lf (o651 P)) .nil)) (.node (o203 P) (.node (o331 P) (lf (o587 P)) .nil) (lf (o459 P)))) (.node (o107 P) (.node (o171 P) (.node (o299 P) (lf (o555 P)) .nil) (.node (o427 P) (lf (o683 P)) .nil)) (.node (o235 P) (.node (o363 P) (lf (o619 P)) .nil) (lf (o491 P))))) (.node (o59 P) (.node (o91 P) (.node (o155 P) (.node (o283 P) (lf (o539 P)) .nil) (.node (o411 P) (lf (o667 P)) .nil)) (.node (o219 P) (.node (o347 P) (lf (o603 P)) .nil) (lf (o475 P)))) (.node (o123 P) (.node (o187 P) (.node (o315 P) (lf (o571 P)) .nil) (.node (o443 P) (lf (o699 P)) .nil)) (.node (o251 P) (.node (o379 P) (lf (o635 P)) .nil) (lf (o507 P)))))))) (.node (o5 P) (.node (o9 P) (.node (o17 P) (.node (o33 P) (.node (o65 P) (.node (o129 P) (.node (o257 P) (lf (o513 P)) .nil) (.node (o385 P) (lf (o641 P)) .nil)) (.node (o193 P) (.node (o321 P) (lf (o577 P)) .nil) (lf (o449 P)))) (.node (o97 P) (.node (o161 P) (.node (o289 P) (lf (o545 P)) .nil) (.node (o417 P) (lf (o673 P)) .nil)) (.node (o225 P) (.node (o353 P) (lf (o609 P)) .nil) (lf (o481 P))))) (.node (o49 P) (.node (o81 P) (.node (o145 P) (.node (o273 P) (lf (o529 P)) .nil) (.node (o401 P) (lf (o657 P)) .nil)) (.node (o209 P) (.node (o337 P) (lf (o593 P)) .nil) (lf (o465 P)))) (.node (o113 P) (.node (o177 P) (.node (o305 P) (lf (o561 P)) .nil) (.node (o433 P) (lf (o689 P)) .nil)) (.node (o241 P) (.node (o369 P) (lf (o625 P)) .nil) (lf (o497 P)))))) (.node (o25 P) (.node (o41 P) (.node (o73 P) (.node (o137 P) (.node (o265 P) (lf (o521 P)) .nil) (.node (o393 P) (lf (o649 P)) .nil)) (.node (o201 P) (.node (o329 P) (lf (o585 P)) .nil) (lf (o457 P)))) (.node (o105 P) (.node (o169 P) (.node (o297 P) (lf (o553 P)) .nil) (.node (o425 P) (lf (o681 P)) .nil)) (.node (o233 P) (.node (o361 P) (lf (o617 P)) .nil) (lf (o489 P))))) (.node (o57 P) (.node (o89 P) (.node (o153 P) (.node (o281 P) (lf (o537 P)) .nil) (.node (o409 P) (lf (o665 P)) .nil)) (.node (o217 P) (.node (o345 P) (lf (o601 P)) .nil) (lf (o473 P)))) (.node (o121 P) (.node (o185 P) (.node (o313 P) (lf (o569 P)) .nil) (.node (o441 P) (lf (o697 P)) .nil)) (.node (o249 P) (.node (o377 P) (lf (o633 P)) .nil) (lf (o505 P))))))) (.node (o13 P) (.node (o21 P) (.node (o37 P) (.node (o69 P) (.node (o133 P) (.node (o261 P) (lf (o517 P)) .nil) (.node (o389 P) (lf (o645 P)) .nil)) (.node (o197 P) (.node (o325 P) (lf (o581 P)) .nil) (lf (o453 P)))) (.node (o101 P) (.node (o165 P) (.node (o293 P) (lf (o549 P)) .nil) (.node (o421 P) (lf (o677 P)) .nil)) (.node (o229 P) (.node (o357 P) (lf (o613 P)) .nil) (lf (o485 P))))) (.node (o53 P) (.node (o85 P) (.node (o149 P) (.node (o277 P) (lf (o533 P)) .nil) (.node (o405 P) (lf (o661 P)) .nil)) (.node (o213 P) (.node (o341 P) (lf (o597 P)) .nil) (lf (o469 P)))) (.node (o117 P) (.node (o181 P) (.node (o309 P) (lf (o565 P)) .nil) (.node (o437 P) (lf (o693 P)) .nil)) (.node (o245 P) (.node (o373 P) (lf (o629 P)) .nil) (lf (o501 P)))))) (.node (o29 P) (.node (o45 P) (.node (o77 P) (.node (o141 P) (.node (o269 P) (lf (o525 P)) .nil) (.node (o397 P) (lf (o653 P)) .nil)) (.node (o205 P) (.node (o333 P) (lf (o589 P)) .nil) (lf (o461 P)))) (.node (o109 P) (.node (o173 P) (.node (o301 P) (lf (o557 P)) .nil) (.node (o429 P) (lf (o685 P)) .nil)) (.node (o237 P) (.node (o365 P) (lf (o621 P)) .nil) (lf (o493 P))))) (.node (o61 P) (.node (o93 P) (.node (o157 P) (.node (o285 P) (lf (o541 P)) .nil) (.node (o413 P) (lf (o669 P)) .nil)) (.node (o221 P) (.node (o349 P) (lf (o605 P)) .nil) (lf (o477 P)))) (.node (o125 P) (.node (o189 P) (.node (o317 P) (lf (o573 P)) .nil) (.node (o445 P) (lf (o701 P)) .nil)) (.node (o253 P) (.node (o381 P) (lf (o637 P)) .nil) (lf (o509 P))))))))) (.node (o2 P) (.node (o4 P) (.node (o8 P) (.node (o16 P) (.node (o32 P) (.node (o64 P) (.node (o128 P) (.node (o256 P) (lf (o512 P)) .nil) (.node (o384 P) (lf (o640 P)) .nil)) (.node (o192 P) (.node (o320 P) (lf (o576 P)) .nil) (lf (o448 P)))) (.node (o96 P) (.node (o160 P) (.node (o288 P) (lf (o544 P)) .nil) (.node (o416 P) (lf (o672 P)) .nil)) (.node (o224 P) (.node (o352 P) (lf (o608 P)) .nil) (lf (o480 P))))) (.node (o48 P) (.node (o80 P) (.node (o144 P) (.node (o272 P) (lf (o528 P)) .nil) (.node (o400 P) (lf (o656 P)) .nil)) (.node (o208 P) (.node (o336 P) (lf (o592 P)) .nil) (lf (o464 P)))) (.node (o112 P) (.node (o176 P) (.node (o304 P) (lf (o560 P)) .nil) (.node (o432 P) (lf (o688 P)) .nil)) (.node (o240 P) (.node (o368 P) (lf (o624 P)) .nil) (lf (o496 P)))))) (.node (o24 P) (.node (o40 P) (.node (o72 P) (.node (o136 P) (.node (o264 P) (lf (o520 P)) .nil) (.node (o392 P) (lf (o648 P)) .nil)) (.node (o200 P) (.node (o328 P) (lf (o584 P)) .nil) (lf (o456 P)))) (.node (o104 P) (.node (o168 P) (.node (o296 P) (lf (o552 P)) .nil) (.node (o424 P) (lf (o680 P)) .nil)) (.node (o232 P) (.node (o360 P) (lf (o616 P)) .nil) (lf (o488 P))))) (.node (o56 P) (.node (o88 P) (.node (o152 P) (.node (o280 P) (lf (o536 P)) .nil) (.node (o408 P) (lf (o664 P)) .nil)) (.node (o216 P) (.node (o344 P) (lf (o600 P)) .nil) (lf (o472 P)))) (.node (o120 P) (.node (o184 P) (.node (o312 P) (lf (o568 P)) .nil) (.node (o440 P) (lf (o696 P)) .nil)) (.node (o248 P) (.node (o376 P) (lf (o632 P)) .nil) (lf (o504 P))))))) (.node (o12 P) (.node (o20 P) (.node (o36 P) (.node (o68 P) (.node (o132 P) (.node (o260 P) (lf (o516 P)) .nil) (.node (o388 P) (lf (o644 P)) .nil)) (.node (o196 P) (.node (o324 P) (lf (o580 P)) .nil) (lf (o452 P)))) (.node (o100 P) (.node (o164 P) (.node (o292 P) (lf (o548 P)) .nil) (.node (o420 P) (lf (o676 P)) .nil)) (.node (o228 P) (.node (o356 P) (lf (o612 P)) .nil) (lf (o484 P))))) (.node (o52 P) (.node (o84 P) (.node (o148 P) (.node (o276 P) (lf (o532 P)) .nil) (.node (o404 P) (lf (o660 P)) .nil)) (.node (o212 P) (.node (o340 P) (lf (o596 P)) .nil) (lf (o468 P)))) (.node (o116 P) (.node (o180 P) (.node (o308 P) (lf (o564 P)) .nil) (.node (o436 P) (lf (o692 P)) .nil)) (.node (o244 P) (.node (o372 P) (lf (o628 P)) .nil) (lf (o500 P)))))) (.node (o28 P) (.node (o44 P) (.node (o76 P) (.node (o140 P) (.node (o268 P) (lf (o524 P)) .nil) (.node (o396 P) (lf (o652 P)) .nil)) (.node (o204 P) (.node (o332 P) (lf (o588 P)) .nil) (lf (o460 P)))) (.node (o108 P) (.node (o172 P) (.node (o300 P) (lf (o556 P)) .nil) (.node (o428 P) (lf (o684 P)) .nil)) (.node (o236 P) (.node (o364 P) (lf (o620 P)) .nil) (lf (o492 P))))) (.node (o60 P) (.node (o92 P) (.node (o156 P) (.node (o284 P) (lf (o540 P)) .nil) (.node (o412 P) (lf (o668 P)) .nil)) (.node (o220 P) (.node (o348 P) (lf (o604 P)) .nil) (lf (o476 P)))) (.node (o124 P) (.node (o188 P) (.node (o316 P) (lf (o572 P)) .nil) (.node (o444 P) (lf (o700 P)) .nil)) (.node (o252 P) (.node (o380 P) (lf (o636 P)) .nil) (lf (o508 P)))))))) (.node (o6 P) (.node (o10 P) (.node (o18 P) (.node (o34 P) (.node (o66 P) (.node (o130 P) (.node (o258 P) (lf (o514 P)) .nil) (.node (o386 P) (lf (o642 P)) .nil)) (.node (o194 P) (.node (o322 P) (lf (o578 P)) .nil) (lf (o450 P)))) (.node (o98 P) (.node (o162 P) (.node (o290 P) (lf (o546 P)) .nil) (.node (o418 P) (lf (o674 P)) .nil)) (.node (o226 P) (.node (o354 P) (lf (o610 P)) .nil) (lf (o482 P))))) (.node (o50 P) (.node (o82 P) (.node (o146 P) (.node (o274 P) (lf (o530 P)) .nil) (.node (o402 P) (lf (o658 P)) .nil)) (.node (o210 P) (.node (o338 P) (lf (o594 P)) .nil) (lf (o466 P)))) (.node (o114 P) (.node (o178 P) (.node (o306 P) (lf (o562 P)) .nil) (.node (o434 P) (lf (o690 P)) .nil)) (.node (o242 P) (.node (o370 P) (lf (o626 P)) .nil) (lf (o498 P)))))) (.node (o26 P) (.node (o42 P) (.node (o74 P) (.node (o138 P) (.node (o266 P) (lf (o522 P)) .nil) (.node (o394 P) (lf (o650 P)) .nil)) (.node (o202 P) (.node (o330 P) (lf (o586 P)) .nil) (lf (o458 P)))) (.node (o106 P) (.node (o170 P) (.node (o298 P) (lf (o554 P)) .nil) (.node (o426 P) (lf (o682 P)) .nil)) (.node (o234 P) (.node (o362 P) (lf (o618 P)) .nil) (lf (o490 P))))) (.node (o58 P) (.node (o90 P) (.node (o154 P) (.node (o282 P) (lf (o538 P)) .nil) (.node (o410 P) (lf (o666 P)) .nil)) (.node (o218 P) (.node (o346 P) (lf (o602 P)) .nil) (lf (o474 P)))) (.node (o122 P) (.node (o186 P) (.node (o314 P) (lf (o570 P)) .nil) (.node (o442 P) (lf (o698 P)) .nil)) (.node (o250 P) (.node (o378 P) (lf (o634 P)) .nil) (lf (o506 P))))))) (.node (o14 P) (.node (o22 P) (.node (o38 P) (.node (o70 P) (.node (o134 P) (.node (o262 P) (lf (o518 P)) .nil) (.node (o390 P) (lf (o646 P)) .nil)) (.node (o198 P) (.node (o326 P) (lf (o582 P)) .nil) (lf (o454 P)))) (.node (o102 P) (.node (o166 P) (.node (o294 P) (lf (o550 P)) .nil) (.node (o422 P) (lf (o678 P)) .nil)) (.node (o230 P) (.node (o358 P) (lf (o614 P)) .nil) (lf (o486 P))))) (.node (o54 P) (.node (o86 P) (.node (o150 P) (.node (o278 P) (lf (o534 P)) .nil) (.node (o406 P) (lf (o662 P)) .nil)) (.node (o214 P) (.node (o342 P) (lf (o598 P)) .nil) (lf (o470 P)))) (.node (o118 P) (.node (o182 P) (.node (o310 P) (lf (o566 P)) .nil) (.node (o438 P) (lf (o694 P)) .nil)) (.node (o246 P) (.node (o374 P) (lf (o630 P)) .nil) (lf (o502 P)))))) (.node (o30 P) (.node (o46 P) (.node (o78 P) (.node (o142 P) (.node (o270 P) (lf (o526 P)) .nil) (.node (o398 P) (lf (o654 P)) .nil)) (.node (o206 P) (.node (o334 P) (lf (o590 P)) .nil) (lf (o462 P)))) (.node (o110 P) (.node (o174 P) (.node (o302 P) (lf (o558 P)) .nil) (.node (o430 P) (lf (o686 P)) .nil)) (.node (o238 P) (.node (o366 P) (lf (o622 P)) .nil) (lf (o494 P))))) (.node (o62 P) (.node (o94 P) (.node (o158 P) (.node (o286 P) (lf (o542 P)) .nil) (.node (o414 P) (lf (o670 P)) .nil)) (.node (o222 P) (.node (o350 P) (lf (o606 P)) .nil) (lf (o478 P)))) (.node (o126 P) (.node (o190 P) (.node (o318 P) (lf (o574 P)) .nil) (.node (o446 P) (lf (o702 P)) .nil)) (.node (o254 P) (.node (o382 P) (lf (o638 P)) .nil) (lf (o510 P))))))))))
noncomputable def S12 (w : World) (os : OsState) : SharedT := ⟨t12 w.params, 703, {}, #[], {}, 1121, os⟩

noncomputable def code0 : Value := .ref 13
noncomputable def env0 : Env := { scope := pr.main.scope, locals := mainNs, globals := mainNs, cells := [], code := code0, frame := some 14 }
noncomputable def body0 : List Stmt := behindTheImports pr
noncomputable def q0 : Pos := ⟨0, 0, 0, 0⟩
noncomputable def b1 : List Stmt := (body0.drop 0).take 8
theorem seg1 (w : World) (os : OsState) : segRunT treeTable pr w 11 (some (.ref 6)) 1 356 (S0 w os) ⟨(execs b1 env0).wrap doneF deadEnd id id, .body body0 env0, ⟨0, 0, 0, 0⟩, [topFrame q0]⟩ = some (.next, S1 w os, .body body0 env0, ⟨36, 0, 37, 8⟩) := by
  rw [PySem.W.Fast.te10110043849684766642, PySem.W.Fast.te14364793385576792824, PySem.W.Fast.te12563942051412417395]
  kernel_rfl
noncomputable def b2 : List Stmt := (body0.drop 8).take 9
theorem seg2 (w : World) (os : OsState) : segRunT treeTable pr w 11 (some (.ref 6)) 1 376 (S1 w os) ⟨(execs b2 env0).wrap doneF deadEnd id id, .body body0 env0, ⟨36, 0, 37, 8⟩, [topFrame q0]⟩ = some (.next, S2 w os, .body body0 env0, ⟨52, 0, 55, 17⟩) := by
  rw [PySem.W.Fast.te10110043849684766642, PySem.W.Fast.te14364793385576792824, PySem.W.Fast.te12563942051412417395]
  kernel_rfl
noncomputable def b3 : List Stmt := (body0.drop 17).take 15
theorem seg3 (w : World) (os : OsState) : segRunT treeTable pr w 11 (some (.ref 6)) 1 394 (S2 w os) ⟨(execs b3 env0).wrap doneF deadEnd id id, .body body0 env0, ⟨52, 0, 55, 17⟩, [topFrame q0]⟩ = some (.next, S3 w os, .body body0 env0, ⟨127, 0, 135, 52⟩) := by
  rw [PySem.W.Fast.te10110043849684766642, PySem.W.Fast.te14364793385576792824, PySem.W.Fast.te12563942051412417395]
  kernel_rfl
noncomputable def b4 : List Stmt := (body0.drop 32).take 12
theorem seg4 (w : World) (os : OsState) : segRunT treeTable pr w 11 (some (.ref 6)) 1 385 (S3 w os) ⟨(execs b4 env0).wrap doneF deadEnd id id, .body body0 env0, ⟨127, 0, 135, 52⟩, [topFrame q0]⟩ = some (.next, S4 w os, .body body0 env0, ⟨215, 0, 224, 35⟩) := by
  rw [PySem.W.Fast.te10110043849684766642, PySem.W.Fast.te14364793385576792824, PySem.W.Fast.te12563942051412417395]
  kernel_rfl
noncomputable def b5 : List Stmt := (body0.drop 44).take 5
theorem seg5 (w : World) (os : OsState) : segRunT treeTable pr w 11 (some (.ref 6)) 1 316 (S4 w os) ⟨(execs b5 env0).wrap doneF deadEnd id id, .body body0 env0, ⟨215, 0, 224, 35⟩, [topFrame q0]⟩ = some (.next, S5 w os, .body body0 env0, ⟨278, 0, 282, 25⟩) := by
  rw [PySem.W.Fast.te10110043849684766642, PySem.W.Fast.te14364793385576792824, PySem.W.Fast.te12563942051412417395]
  kernel_rfl
noncomputable def b6 : List Stmt := (body0.drop 49).take 1
theorem seg6 (w : World) (os : OsState) : segRunT treeTable pr w 11 (some (.ref 6)) 1 261 (S5 w os) ⟨(execs b6 env0).wrap doneF deadEnd id id, .body body0 env0, ⟨278, 0, 282, 25⟩, [topFrame q0]⟩ = some (.next, S6 w os, .body body0 env0, ⟨283, 0, 293, 16⟩) := by
  rw [PySem.W.Fast.te10110043849684766642, PySem.W.Fast.te14364793385576792824, PySem.W.Fast.te12563942051412417395]
  kernel_rfl
noncomputable def b7 : List Stmt := (body0.drop 50).take 7
theorem seg7 (w : World) (os : OsState) : segRunT treeTable pr w 11 (some (.ref 6)) 1 400 (S6 w os) ⟨(execs b7 env0).wrap doneF deadEnd id id, .body body0 env0, ⟨283, 0, 293, 16⟩, [topFrame q0]⟩ = some (.next, S7 w os, .body body0 env0, ⟨323, 0, 324, 32⟩) := by
  rw [PySem.W.Fast.te10110043849684766642, PySem.W.Fast.te14364793385576792824, PySem.W.Fast.te12563942051412417395]
  kernel_rfl
noncomputable def b8 : List Stmt := (body0.drop 57).take 14
theorem seg8 (w : World) (os : OsState) : segRunT treeTable pr w 11 (some (.ref 6)) 1 383 (S7 w os) ⟨(execs b8 env0).wrap doneF deadEnd id id, .body body0 env0, ⟨323, 0, 324, 32⟩, [topFrame q0]⟩ = some (.next, S8 w os, .body body0 env0, ⟨391, 0, 398, 32⟩) := by
  rw [PySem.W.Fast.te10110043849684766642, PySem.W.Fast.te14364793385576792824, PySem.W.Fast.te12563942051412417395]
  kernel_rfl
noncomputable def b9 : List Stmt := (body0.drop 71).take 9
theorem seg9 (w : World) (os : OsState) : segRunT treeTable pr w 11 (some (.ref 6)) 1 224 (S8 w os) ⟨(execs b9 env0).wrap doneF deadEnd id id, .body body0 env0, ⟨391, 0, 398, 32⟩, [topFrame q0]⟩ = some (.next, S9 w os, .body body0 env0, ⟨449, 0, 449, 10⟩) := by
  rw [PySem.W.Fast.te10110043849684766642, PySem.W.Fast.te14364793385576792824, PySem.W.Fast.te12563942051412417395]
  kernel_rfl
noncomputable def b10 : List Stmt := (body0.drop 80).take 6
theorem seg10 (w : World) (os : OsState) : segRunT treeTable pr w 11 (some (.ref 6)) 1 376 (S9 w os) ⟨(execs b10 env0).wrap doneF deadEnd id id, .body body0 env0, ⟨449, 0, 449, 10⟩, [topFrame q0]⟩ = some (.next, S10 w os, .body body0 env0, ⟨477, 0, 482, 45⟩) := by
  rw [PySem.W.Fast.te10110043849684766642, PySem.W.Fast.te14364793385576792824, PySem.W.Fast.te12563942051412417395]
  kernel_rfl
noncomputable def b11 : List Stmt := (body0.drop 86).take 14
theorem seg11 (w : World) (os : OsState) : segRunT treeTable pr w 11 (some (.ref 6)) 1 400 (S10 w os) ⟨(execs b11 env0).wrap doneF deadEnd id id, .body body0 env0, ⟨477, 0, 482, 45⟩, [topFrame q0]⟩ = some (.next, S11 w os, .body body0 env0, ⟨601, 0, 604, 82⟩) := by
  rw [PySem.W.Fast.te10110043849684766642, PySem.W.Fast.te14364793385576792824, PySem.W.Fast.te12563942051412417395]
  kernel_rfl
noncomputable def b12 : List Stmt := (body0.drop 100).take 8
theorem seg12 (w : World) (os : OsState) : segRunT treeTable pr w 11 (some (.ref 6)) 1 227 (S11 w os) ⟨(execs b12 env0).wrap doneF deadEnd id id, .body body0 env0, ⟨601, 0, 604, 82⟩, [topFrame q0]⟩ = some (.next, S12 w os, .body body0 env0, ⟨679, 0, 700, 112⟩) := by
  rw [PySem.W.Fast.te10110043849684766642, PySem.W.Fast.te14364793385576792824, PySem.W.Fast.te12563942051412417395]
  kernel_rfl
theorem pre0 (w : World) (os : OsState) : topGo treeTable pr w 11 (some (.ref 6)) 12 ⟨boot_heap w.params, #[], boot_drawn, boot_toks, os⟩ (topStub pr) = some ((Sa w os).abs, ⟨denote treeTable (.body body0 env0), .body body0 env0, ⟨0, 0, 0, 0⟩, [topFrame q0]⟩) := by
  rw [PySem.W.Fast.te15667345088766844465, PySem.W.Fast.te14364793385576792824, PySem.W.Fast.te11892475500146522536]
  kernel_rfl
theorem block0 (w : World) (os : OsState) : segRun treeTable pr w 11 (some (.ref 6)) 1 1 (Sa w os).abs (blockOf body0 env0 (.body body0 env0) ⟨0, 0, 0, 0⟩ [topFrame q0]) = some (.next, (S0 w os).abs, .body body0 env0, ⟨0, 0, 0, 0⟩) := by
  kernel_rfl
theorem fin0 (w : World) (os : OsState) : topRun treeTable pr w 11 (some (.ref 6)) 2 (S12 w os).abs ⟨doneF .next, .body body0 env0, ⟨679, 0, 700, 112⟩, [topFrame q0]⟩ = some (S12 w os).abs := by
  kernel_rfl
theorem both {a b : Bool} (ha : a = true) (hb : b = true) : (a && b) = true := by rw [ha, hb]; rfl
theorem said : PySem.Challenge.rw_pq1408_01.wellSaid = true := by
  rw [PySem.W.Fast.te9446332074065402090]
  unfold PySem.W.Fast.tw9446332074065402090
  repeat' (first | with_reducible apply both | unfold PySem.W.Fast.tw17960256430627541270 | unfold PySem.W.Fast.tw2436336058641802641 | unfold PySem.W.Fast.tw12908688711261696721)
  all_goals decide +kernel
theorem ch13 (w : World) (os : OsState) : topRun treeTable pr w 11 (some (.ref 6)) 2 (S12 w os).abs (restOf [] env0 (.body body0 env0) ⟨679, 0, 700, 112⟩ [topFrame q0]) = some (S12 w os).abs := piece_nil (fin0 w os)
theorem ch12 (w : World) (os : OsState) : topRun treeTable pr w 11 (some (.ref 6)) 229 (S11 w os).abs (restOf (body0.drop 100) env0 (.body body0 env0) ⟨601, 0, 604, 82⟩ [topFrame q0]) = some (S12 w os).abs := by
  have e : body0.drop 100 = b12 ++ [] := by kernel_rfl
  rw [e]
  exact piece_app (n := 227) (N := 2) (segRun_of (seg12 w os)) (ch13 w os)
theorem ch11 (w : World) (os : OsState) : topRun treeTable pr w 11 (some (.ref 6)) 629 (S10 w os).abs (restOf (body0.drop 86) env0 (.body body0 env0) ⟨477, 0, 482, 45⟩ [topFrame q0]) = some (S12 w os).abs := by
  have e : body0.drop 86 = b11 ++ body0.drop 100 := (List.take_append_drop 14 (body0.drop 86)).symm.trans (by rw [List.drop_drop]; rfl)
  rw [e]
  exact piece_app (n := 400) (N := 229) (segRun_of (seg11 w os)) (ch12 w os)
theorem ch10 (w : World) (os : OsState) : topRun treeTable pr w 11 (some (.ref 6)) 1005 (S9 w os).abs (restOf (body0.drop 80) env0 (.body body0 env0) ⟨449, 0, 449, 10⟩ [topFrame q0]) = some (S12 w os).abs := by
  have e : body0.drop 80 = b10 ++ body0.drop 86 := (List.take_append_drop 6 (body0.drop 80)).symm.trans (by rw [List.drop_drop]; rfl)
  rw [e]
  exact piece_app (n := 376) (N := 629) (segRun_of (seg10 w os)) (ch11 w os)
theorem ch9 (w : World) (os : OsState) : topRun treeTable pr w 11 (some (.ref 6)) 1229 (S8 w os).abs (restOf (body0.drop 71) env0 (.body body0 env0) ⟨391, 0, 398, 32⟩ [topFrame q0]) = some (S12 w os).abs := by
  have e : body0.drop 71 = b9 ++ body0.drop 80 := (List.take_append_drop 9 (body0.drop 71)).symm.trans (by rw [List.drop_drop]; rfl)
  rw [e]
  exact piece_app (n := 224) (N := 1005) (segRun_of (seg9 w os)) (ch10 w os)
theorem ch8 (w : World) (os : OsState) : topRun treeTable pr w 11 (some (.ref 6)) 1612 (S7 w os).abs (restOf (body0.drop 57) env0 (.body body0 env0) ⟨323, 0, 324, 32⟩ [topFrame q0]) = some (S12 w os).abs := by
  have e : body0.drop 57 = b8 ++ body0.drop 71 := (List.take_append_drop 14 (body0.drop 57)).symm.trans (by rw [List.drop_drop]; rfl)
  rw [e]
  exact piece_app (n := 383) (N := 1229) (segRun_of (seg8 w os)) (ch9 w os)
theorem ch7 (w : World) (os : OsState) : topRun treeTable pr w 11 (some (.ref 6)) 2012 (S6 w os).abs (restOf (body0.drop 50) env0 (.body body0 env0) ⟨283, 0, 293, 16⟩ [topFrame q0]) = some (S12 w os).abs := by
  have e : body0.drop 50 = b7 ++ body0.drop 57 := (List.take_append_drop 7 (body0.drop 50)).symm.trans (by rw [List.drop_drop]; rfl)
  rw [e]
  exact piece_app (n := 400) (N := 1612) (segRun_of (seg7 w os)) (ch8 w os)
theorem ch6 (w : World) (os : OsState) : topRun treeTable pr w 11 (some (.ref 6)) 2273 (S5 w os).abs (restOf (body0.drop 49) env0 (.body body0 env0) ⟨278, 0, 282, 25⟩ [topFrame q0]) = some (S12 w os).abs := by
  have e : body0.drop 49 = b6 ++ body0.drop 50 := (List.take_append_drop 1 (body0.drop 49)).symm.trans (by rw [List.drop_drop]; rfl)
  rw [e]
  exact piece_app (n := 261) (N := 2012) (segRun_of (seg6 w os)) (ch7 w os)
theorem ch5 (w : World) (os : OsState) : topRun treeTable pr w 11 (some (.ref 6)) 2589 (S4 w os).abs (restOf (body0.drop 44) env0 (.body body0 env0) ⟨215, 0, 224, 35⟩ [topFrame q0]) = some (S12 w os).abs := by
  have e : body0.drop 44 = b5 ++ body0.drop 49 := (List.take_append_drop 5 (body0.drop 44)).symm.trans (by rw [List.drop_drop]; rfl)
  rw [e]
  exact piece_app (n := 316) (N := 2273) (segRun_of (seg5 w os)) (ch6 w os)
theorem ch4 (w : World) (os : OsState) : topRun treeTable pr w 11 (some (.ref 6)) 2974 (S3 w os).abs (restOf (body0.drop 32) env0 (.body body0 env0) ⟨127, 0, 135, 52⟩ [topFrame q0]) = some (S12 w os).abs := by
  have e : body0.drop 32 = b4 ++ body0.drop 44 := (List.take_append_drop 12 (body0.drop 32)).symm.trans (by rw [List.drop_drop]; rfl)
  rw [e]
  exact piece_app (n := 385) (N := 2589) (segRun_of (seg4 w os)) (ch5 w os)
theorem ch3 (w : World) (os : OsState) : topRun treeTable pr w 11 (some (.ref 6)) 3368 (S2 w os).abs (restOf (body0.drop 17) env0 (.body body0 env0) ⟨52, 0, 55, 17⟩ [topFrame q0]) = some (S12 w os).abs := by
  have e : body0.drop 17 = b3 ++ body0.drop 32 := (List.take_append_drop 15 (body0.drop 17)).symm.trans (by rw [List.drop_drop]; rfl)
  rw [e]
  exact piece_app (n := 394) (N := 2974) (segRun_of (seg3 w os)) (ch4 w os)
theorem ch2 (w : World) (os : OsState) : topRun treeTable pr w 11 (some (.ref 6)) 3744 (S1 w os).abs (restOf (body0.drop 8) env0 (.body body0 env0) ⟨36, 0, 37, 8⟩ [topFrame q0]) = some (S12 w os).abs := by
  have e : body0.drop 8 = b2 ++ body0.drop 17 := (List.take_append_drop 9 (body0.drop 8)).symm.trans (by rw [List.drop_drop]; rfl)
  rw [e]
  exact piece_app (n := 376) (N := 3368) (segRun_of (seg2 w os)) (ch3 w os)
theorem ch1 (w : World) (os : OsState) : topRun treeTable pr w 11 (some (.ref 6)) 4100 (S0 w os).abs (restOf (body0.drop 0) env0 (.body body0 env0) ⟨0, 0, 0, 0⟩ [topFrame q0]) = some (S12 w os).abs := by
  have e : body0.drop 0 = b1 ++ body0.drop 8 := (List.take_append_drop 8 (body0.drop 0)).symm.trans (by rw [List.drop_drop]; rfl)
  rw [e]
  exact piece_app (n := 356) (N := 3744) (segRun_of (seg1 w os)) (ch2 w os)
theorem chAll (w : World) (os : OsState) : topRun treeTable pr w 11 (some (.ref 6)) 4113 ⟨boot_heap w.params, #[], boot_drawn, boot_toks, os⟩ (topStub pr) = some (S12 w os).abs :=
  go_top (n := 12) (N := 4101) (pre0 w os) (piece_block (n := 1) (N := 4100) (block0 w os) (ch1 w os))
theorem size0 (w : World) : ((boot_heap w.params).isNs mainGlobals && (#[] : Array GenState).size == 0, (boot_heap w.params).objs.size, (boot_heap w.params).nsMap mainGlobals "__annotations__") = (true, 11, some (.ref 6)) := by
  kernel_rfl
theorem opens (w : World) : (fencedOpening treeTable pr w 8298).map (fun s => (s.heap, s.gens, s.drawn, s.toks)) = some (boot_heap w.params, #[], boot_drawn, boot_toks) :=
  boot_open (p := pr) (N := 8298) (by kernel_rfl) (by decide) (fun s => by rfl) w
noncomputable def vw : Program := view pr [107]
noncomputable def H1 (P : Params) : Heap := absHeap (t12 P) 703 {}
noncomputable def loose0 : List PySem.Str := (pr.boundNames.filter fun n => !(startupNames.contains n)).filter (· != "law")
theorem lk1 (w : World) (os : OsState) : (staticsOk (importedModules pr.main.body) (boot_heap w.params) (H1 w.params) && namesBound pr (H1 w.params) && gensDone ⟨H1 w.params, #[], {}, 1121, os⟩ && laidKept (boot_heap w.params) (H1 w.params)) = true := by
  kernel_rfl
noncomputable abbrev Sx (w : World) (os : OsState) : Shared := ⟨H1 w.params, #[], {}, 1121, os⟩
theorem lkA (w : World) (os : OsState) : seen ((recsOf vw).map (·.name)) (ownsOf vw) [] { Sx w os with gens := #[] } = expectedOf vw := by kernel_rfl
theorem lkB (w : World) : (H1 w.params).bltView = bltViewBooted := by kernel_rfl
theorem lkC (w : World) (os : OsState) : ((H1 w.params).keysOk (looseW vw loose0) ((recsOf vw).map (·.name)) ((litsOf vw).map (·.1)) ((clssOf vw (looseW vw loose0)).map (·.name)) && (H1 w.params).accountedOkI (importedModules pr.main.body) && (H1 w.params).isNs mainGlobals && (H1 w.params).isNs builtinsNs && tablesOk vw (H1 w.params) && true && ((#[] : Array GenState).size == 0)) = true := by kernel_rfl
theorem lkD (w : World) (os : OsState) : tabsOk vw (Sx w os) = true := by kernel_rfl
theorem lkE (w : World) (os : OsState) : pinSeenD vw (drecsOf vw) (Sx w os) = pinGoodD (drecsOf vw) := by kernel_rfl
theorem lkF (w : World) (os : OsState) : plainSeenE vw (looseW vw loose0) (Sx w os) = plainGoodE vw (looseW vw loose0) := by kernel_rfl
theorem lkG (w : World) (os : OsState) : plainSeenD vw loose0 (Sx w os) = plainGoodD vw loose0 := by kernel_rfl
theorem lkH (w : World) (os : OsState) : wideSeen vw (Sx w os) = wideGood vw := by kernel_rfl
theorem lkI (w : World) (os : OsState) : clsSeenW vw loose0 (Sx w os) = clsGoodW vw loose0 := by kernel_rfl
theorem left0 : LeftO pr vw loose0 (fun _ => true) (fun s => s.heap) (fun w => H1 w.params) 8298 :=
  LeftO.of_pieces (H₀ := boot_heap) (H₁ := H1) (gs₀ := #[]) (gs₁ := #[]) (d₀ := boot_drawn) (d₁ := {}) (k₀ := boot_toks) (k₁ := 1121) (m₀ := 11) (ann := some (.ref 6)) opens size0 chAll (by rfl)
    (fun w => funext fun os => Prod.ext (lk1 w os) (Prod.ext (Prod.ext (lkA w os) (Prod.ext (lkB w) (Prod.ext (lkC w os) (Prod.ext (lkD w os) (Prod.ext (lkE w os) (Prod.ext (lkF w os) (Prod.ext (lkG w os) (Prod.ext (lkH w os) (lkI w os))))))))) rfl))
noncomputable def d0 : DefRec := ⟨"law", fArgs (st 107), fBody (st 107), fScope (st 107), ⟨679, 0, 700, 112⟩⟩
abbrev rw0 : OpenLaw := PySem.Challenge.rw_pq1408_01
theorem prom0 : rw0.row.toRowW.promised := by w_witness2
theorem hdef0 : defOf vw rw0.row.name = some (d0, []) := by kernel_rfl
theorem hp0 : rw0.row.prog.theDef rw0.row.name = some (d0.params, d0.body, d0.scope) := by kernel_rfl
theorem hk0 : kwWritten? d0.params.kwonlyargs d0.params.kw_defaults = some [] := by kernel_rfl
theorem ok0 : (chainsOk vw && opensWell rw0.row.prog && (frees rw0.row.toRowW && rw0.row.within.isEmpty)) = true := by kernel_rfl
theorem bare0 : rw0.row.prog.bare := ⟨rfl, rfl, rfl, rfl, rfl, by decide +kernel⟩
theorem head (call : WalkX vw loose0 (fun _ _ => True) (fun s => s.heap) (fun w => H1 w.params) rw0.row.toRowW d0 [] fun f vs => PySem.call f vs) : rw0.Holds :=
  holds_law said fun k1 => holds_openX left0 (fun _ _ => trivial) (fun _ _ _ _ _ => trivial) hdef0 hp0 hk0 (fun s _ => recFacts_of (R := []) (by rfl)) (by rfl) k1 ok0 bare0 prom0 call
end
section
open PySem PySem.W PySem.Calls PyProof.Rows PySem.Spec
/-- what is held of an object -/
noncomputable abbrev Pd := Obj → Prop
noncomputable abbrev Led := List (Addr × Pd)
structure St (B : Shared) (f : Heap) (N : Led) (s : Shared) : Prop where
  sh : ∃ h tk, s = { B with heap := h, toks := tk }
  base : ∀ b o, B.heap.get? b = some o → f.get? b = some o
  sub : ∀ b o, f.get? b = some o → s.heap.get? b = some o
  own : ∀ p ∈ N, f.get? p.1 = none ∧ ∃ o, s.heap.get? p.1 = some o ∧ p.2 o
  nd : (N.map (·.1)).Nodup
noncomputable abbrev Le (f g : Heap) : Prop := ∀ b o, f.get? b = some o → g.get? b = some o
theorem Le.refl (f : Heap) : Le f f := fun _ _ e => e
theorem Le.trans {f g h : Heap} (x : Le f g) (y : Le g h) : Le f h := fun b o e => y b o (x b o e)
/-- locals: first entry counts -/
noncomputable def Mp (l : List (Str × Value)) (k : Str) : Option Value := l.lookup k
theorem Mp_hd {k : Str} {v : Value} {l : List (Str × Value)} : Mp ((k, v) :: l) k = some v := by simp [Mp, List.lookup_cons]
theorem Mp_tl {k k' : Str} {v v' : Value} {l : List (Str × Value)} (h : Mp l k = some v) (hn : (k == k') = false) : Mp ((k', v') :: l) k = some v := by simp [Mp, List.lookup_cons, hn]; exact h
noncomputable def HasVars (l : List (Str × Value)) : Pd := fun o => ∃ es ep, o.data = .dict es ep ∧ StrKeys es ∧ ∀ k v, Mp l k = some v → nsFind es k = some v
noncomputable def IsCellO (v : Value) : Pd := fun o => o.data = .cell (some v)
noncomputable def IsCellN : Pd := fun o => ∃ v, o.data = .cell v
noncomputable def listO (xs : Array Value) (n : Nat) : Obj := { cls := .type "list", data := .seq xs n }
noncomputable def tupO (xs : Array Value) (n : Nat) : Obj := { cls := .type "tuple", data := .seq xs n }
noncomputable def IsLst (xs : List Value) : Pd := fun o => ∃ n, o = listO xs.toArray n

section
variable {B : Shared} {f : Heap} {N : Led} {s : Shared}
theorem St.mono {f' : Heap} (H : St B f N s) (h1 : Le f f') (h2 : Le f' s.heap) (h3 : ∀ p ∈ N, f'.get? p.1 = none) : St B f' N s :=
  ⟨H.sh, fun b o e => h1 b o (H.base b o e), h2, fun p hp => ⟨h3 p hp, (H.own p hp).2⟩, H.nd⟩
theorem St.tok (H : St B f N s) (t : Nat) : St B f N { s with toks := t } := by
  obtain ⟨h, tk, rfl⟩ := H.sh
  exact ⟨⟨h, t, rfl⟩, H.base, H.sub, H.own, H.nd⟩
theorem St.drop {p} (H : St B f (p :: N) s) : St B f N s := ⟨H.sh, H.base, H.sub, fun q hq => H.own q (.tail _ hq), (List.nodup_cons.mp H.nd).2⟩
theorem St.perm {N' : Led} (H : St B f N s) (h : N'.Perm N) : St B f N' s := ⟨H.sh, H.base, H.sub, fun q hq => H.own q (h.mem_iff.mp hq), (h.map _).nodup_iff.mpr H.nd⟩
theorem St.p1 {a b} (H : St B f (a :: b :: N) s) : St B f (b :: a :: N) s := H.perm (.swap ..)
theorem St.p2 {a b c} (H : St B f (a :: b :: c :: N) s) : St B f (c :: a :: b :: N) s := H.perm ((List.Perm.swap ..).trans (.cons _ (.swap ..)))
theorem St.p3 {a b c d} (H : St B f (a :: b :: c :: d :: N) s) : St B f (d :: a :: b :: c :: N) s :=
  H.perm ((List.Perm.swap ..).trans (.cons _ ((List.Perm.swap ..).trans (.cons _ (.swap ..)))))
theorem St.p4 {a b c d e} (H : St B f (a :: b :: c :: d :: e :: N) s) : St B f (e :: a :: b :: c :: d :: N) s :=
  H.perm ((List.Perm.swap ..).trans (.cons _ ((List.Perm.swap ..).trans (.cons _ ((List.Perm.swap ..).trans (.cons _ (.swap ..)))))))
theorem St.p5 {a b c d e g} (H : St B f (a :: b :: c :: d :: e :: g :: N) s) : St B f (g :: a :: b :: c :: d :: e :: N) s :=
  H.perm ((List.Perm.swap ..).trans (.cons _ ((List.Perm.swap ..).trans (.cons _ ((List.Perm.swap ..).trans (.cons _ ((List.Perm.swap ..).trans (.cons _ (.swap ..)))))))))
theorem St.p6 {a b c d e g i} (H : St B f (a :: b :: c :: d :: e :: g :: i :: N) s) : St B f (i :: a :: b :: c :: d :: e :: g :: N) s :=
  H.perm ((List.Perm.swap ..).trans (.cons _ ((List.Perm.swap ..).trans (.cons _ ((List.Perm.swap ..).trans (.cons _ ((List.Perm.swap ..).trans (.cons _ ((List.Perm.swap ..).trans (.cons _ (.swap ..)))))))))))
theorem St.p7 {a b c d e g i j} (H : St B f (a :: b :: c :: d :: e :: g :: i :: j :: N) s) : St B f (j :: a :: b :: c :: d :: e :: g :: i :: N) s :=
  H.perm ((List.Perm.swap ..).trans (.cons _ ((List.Perm.swap ..).trans (.cons _ ((List.Perm.swap ..).trans (.cons _ ((List.Perm.swap ..).trans (.cons _ ((List.Perm.swap ..).trans (.cons _ ((List.Perm.swap ..).trans (.cons _ (.swap ..)))))))))))))
theorem St.p8 {a b c d e g i j k} (H : St B f (a :: b :: c :: d :: e :: g :: i :: j :: k :: N) s) : St B f (k :: a :: b :: c :: d :: e :: g :: i :: j :: N) s :=
  H.perm ((List.Perm.swap ..).trans (.cons _ ((List.Perm.swap ..).trans (.cons _ ((List.Perm.swap ..).trans (.cons _ ((List.Perm.swap ..).trans (.cons _ ((List.Perm.swap ..).trans (.cons _ ((List.Perm.swap ..).trans (.cons _ ((List.Perm.swap ..).trans (.cons _ (.swap ..)))))))))))))))


theorem St.ns {L : Addr} {l} (H : St B f ((L, HasVars l) :: N) s) : ∃ m, s.heap.Ns L m ∧ ∀ k v, Mp l k = some v → m k = some v := by
  obtain ⟨_, o, ho, es, ep, hd, hk, hv⟩ := H.own _ (.head _)
  exact ⟨fun n => nsFind es n, ⟨o, es, ep, ho, hd, hk, fun _ => rfl⟩, hv⟩
theorem St.get {a : Addr} {P} (H : St B f ((a, P) :: N) s) : ∃ o, s.heap.get? a = some o ∧ P o := (H.own _ (.head _)).2
theorem St.notin {p q} (H : St B f (p :: N) s) (hq : q ∈ N) : q.1 ≠ p.1 := fun e => (List.nodup_cons.mp H.nd).1 (List.mem_map.mpr ⟨q, hq, e⟩)
/-- one object changed -/
theorem St.upd {a : Addr} {P P' : Pd} {h' : Heap} {o' : Obj} {tk : Tok} (H : St B f ((a, P) :: N) s) (hs : Heap.SameBut a s.heap h') (ho : h'.get? a = some o') (hp : P' o') : St B f ((a, P') :: N) { s with heap := h', toks := tk } := by
  have hfa := (H.own _ (.head _)).1
  refine ⟨?_, H.base, fun b o e => ?_, fun q hq => ?_, by simpa using H.nd⟩
  · obtain ⟨h, t, rfl⟩ := H.sh; exact ⟨h', tk, rfl⟩
  · exact (hs.2 b (fun q => by subst q; rw [hfa] at e; cases e)).trans (H.sub b o e)
  · rcases List.mem_cons.mp hq with rfl | hq
    · exact ⟨hfa, o', ho, hp⟩
    · obtain ⟨h1, o, h2, h3⟩ := H.own q (.tail _ hq)
      exact ⟨h1, o, (hs.2 _ (H.notin hq)).trans h2, h3⟩
theorem St.fresh (H : St B f N s) {a : Addr} (h : s.heap.get? a = none) : f.get? a = none ∧ a ∉ N.map (·.1) := by
  constructor
  · cases e : f.get? a with
    | none => rfl
    | some o => rw [H.sub _ _ e] at h; cases h
  · intro hm
    obtain ⟨p, hp, rfl⟩ := List.mem_map.mp hm
    obtain ⟨_, o, ho, _⟩ := H.own p hp
    rw [ho] at h; cases h
theorem get?_size (h : Heap) {a : Addr} (ha : h.objs.size ≤ a) : h.get? a = none := by
  cases e : h.get? a with
  | none => rfl
  | some o => exact absurd (Heap.lt_size e) (Nat.not_lt.mpr ha)
/-- the heap grown, nothing changed -/
theorem St.grow {h' : Heap} {tk : Tok} (H : St B f N s) (hk : Le s.heap h') : St B f N { s with heap := h', toks := tk } :=
  ⟨by obtain ⟨h, t, rfl⟩ := H.sh; exact ⟨h', tk, rfl⟩, H.base, fun b o e => hk b o (H.sub b o e), fun q hq => let ⟨h1, o, h2, h3⟩ := H.own q hq; ⟨h1, o, hk _ _ h2, h3⟩, H.nd⟩
theorem St.growNew {h' : Heap} {tk : Tok} {a : Addr} {o : Obj} {P : Pd} (H : St B f N s) (hk : Le s.heap h') (hn : s.heap.get? a = none) (ho : h'.get? a = some o) (hp : P o) : St B f ((a, P) :: N) { s with heap := h', toks := tk } := by
  have H' := H.grow (tk := tk) hk
  obtain ⟨h1, h2⟩ := H.fresh hn
  exact ⟨H'.sh, H'.base, H'.sub, fun q hq => by
    rcases List.mem_cons.mp hq with rfl | hq
    · exact ⟨h1, o, ho, hp⟩
    · exact H'.own q hq, List.nodup_cons.mpr ⟨h2, H'.nd⟩⟩
theorem St.push {o : Obj} {P : Pd} {tk : Tok} (H : St B f N s) (hp : P o) (hf : o.isFreed = false := by rfl) : St B f ((s.heap.objs.size, P) :: N) { s with heap := s.heap.push o, toks := tk } :=
  H.growNew (fun b o' e => Heap.get?_push_of_some _ e) (get?_size _ (Nat.le_refl _)) (Heap.get?_push_size _ hf) hp
/-- all but the ledger becomes fixed -/
theorem St.freeze {a : Addr} {P : Pd} (H : St B f ((a, P) :: N) s) : ∃ f', Le f f' ∧ St B f' N s ∧ ∃ o, f'.get? a = some o ∧ P o := by
  refine ⟨hideAll s.heap (N.map (·.1)), fun b o e => hideAll_get _ (H.sub b o e) fun hm => ?_, H.drop.mono (fun b o e => hideAll_get _ (H.sub b o e) fun hm => ?_) (fun b o e => of_hideAll _ e) (fun p hp => hideAll_none _ (List.mem_map_of_mem hp)), ?_⟩
  · obtain ⟨p, hp, rfl⟩ := List.mem_map.mp hm
    rw [(H.own p (.tail _ hp)).1] at e; cases e
  · obtain ⟨p, hp, rfl⟩ := List.mem_map.mp hm
    rw [(H.own p (.tail _ hp)).1] at e; cases e
  · obtain ⟨_, o, ho, hp⟩ := H.own _ (.head _)
    exact ⟨o, hideAll_get _ ho (List.nodup_cons.mp H.nd).1, hp⟩
theorem St.imp {a : Addr} {P P' : Pd} (H : St B f ((a, P) :: N) s) (h : ∀ o, P o → P' o) : St B f ((a, P') :: N) s :=
  ⟨H.sh, H.base, H.sub, fun q hq => by
    rcases List.mem_cons.mp hq with rfl | hq
    · obtain ⟨h1, o, h2, h3⟩ := H.own _ (.head _); exact ⟨h1, o, h2, h _ h3⟩
    · exact H.own q (.tail _ hq), by simpa using H.nd⟩
end

section
variable {prog : Program} {w : World} {B : Shared} {f : Heap} {N : Led} {s : Shared} {A : Around} {env : Env}
noncomputable abbrev FF : Value → Shared → Prop := fun _ _ => False
noncomputable abbrev Wq (prog : Program) (w : World) {α : Type} (A : Around) (t : Sem α) (Q : α → Shared → Prop) (s : Shared) : Prop := wpAny (model prog w) A t Q FF s
theorem r_int {i k pos} {Q : Value → Shared → Prop} (H : St B f N s) (h : ∀ t s', St B f N s' → Q (.int i t) s') : Wq prog w A (eval (.Constant (.int i) k pos) env) Q s := wpAny_Constant_int (h _ _ (H.tok _))
theorem r_str {x : Str} {k pos} {Q : Value → Shared → Prop} (H : St B f N s) (h : ∀ t s', St B f N s' → Q (.str x t) s') : Wq prog w A (eval (.Constant (.str x) k pos) env) Q s := Calls.Constant_str (h _ _ (H.tok _))
theorem r_none {k pos} {Q : Value → Shared → Prop} (h : Q .none s) : Wq prog w A (eval (.Constant .none k pos) env) Q s := wpAny_Constant_none h
theorem r_bool {b k pos} {Q : Value → Shared → Prop} (h : Q (.bool b) s) : Wq prog w A (eval (.Constant (.bool b) k pos) env) Q s := wpAny_Constant_bool h
/-- a local's value -/
theorem r_local {x : Str} {pos : Pos} {l : List (Str × Value)} {v : Value} {Q : Value → Shared → Prop} (hl : env.kindOf x = some .local) (H : St B f ((env.locals, HasVars l) :: N) s) (hv : Mp l x = some v) (h : Q v s)
    (hk : env.scope.kind = .function := by rfl) (hd : (x == ("__debug__" : Str)) = false := by decide +kernel) : Wq prog w A (eval (.Name x pos) env) Q s := by
  obtain ⟨m, hn, hm⟩ := H.ns
  exact wpAny_Name (wpAny_loadName_local hk hl hn (hm _ _ hv) h) hd
theorem r_loadlocal {x : Str} {l : List (Str × Value)} {v : Value} {Q : Value → Shared → Prop} (hl : env.kindOf x = some .local) (H : St B f ((env.locals, HasVars l) :: N) s) (hv : Mp l x = some v) (h : Q v s)
    (hk : env.scope.kind = .function := by rfl) : Wq prog w A (loadName env x) Q s := by
  obtain ⟨m, hn, hm⟩ := H.ns
  exact wpAny_loadName_local hk hl hn (hm _ _ hv) h
theorem r_cell {x : Str} {pos : Pos} {c : Addr} {v : Value} {Q : Value → Shared → Prop} (hl : env.kindOf x = some .cell) (hc : env.cells.lookup x = some c) (H : St B f ((c, IsCellO v) :: N) s) (h : Q v s)
    (hk : env.scope.kind = .function := by rfl) (hd : (x == ("__debug__" : Str)) = false := by decide +kernel) : Wq prog w A (eval (.Name x pos) env) Q s := by
  obtain ⟨o, ho, hp⟩ := H.get
  exact wpAny_Name (wpAny_loadName_cell hk hl hc ⟨o, ho, hp⟩ h) hd
theorem r_store {x : Str} {l : List (Str × Value)} {v : Value} {Q : Unit → Shared → Prop} (hl : env.kindOf x = some .local) (H : St B f ((env.locals, HasVars l) :: N) s)
    (h : ∀ s', St B f ((env.locals, HasVars ((x, v) :: l)) :: N) s' → Q () s') (hp : (env.scope.kind == .class || (env.scope.kind == .module && env.locals != env.globals)) = false := by rfl) :
    Wq prog w A (storeName env x v) Q s := by
  obtain ⟨m, hn, hm⟩ := H.ns
  refine wpAny_storeName_local hl hn (fun h' hn' hs => h _ ?_) hp
  obtain ⟨o, es, ep, ho, hd, hk, hf⟩ := hn'
  refine H.upd hs ho ⟨es, ep, hd, hk, fun k u e => ?_⟩
  rw [hf]
  dsimp only
  by_cases q : k = x
  · subst q; rw [Mp_hd] at e; rw [if_pos rfl]; exact e
  · rw [if_neg q]; refine hm k u ?_
    simpa [Mp, List.lookup_cons, beq_eq_false_iff_ne.mpr q] using e
theorem r_storecell {x : Str} {c : Addr} {v : Value} {Q : Unit → Shared → Prop} (hl : env.kindOf x = some .cell) (hc : env.cells.lookup x = some c) (H : St B f ((c, IsCellN) :: N) s)
    (h : ∀ s', St B f ((c, IsCellO v) :: N) s' → Q () s') (hk : env.scope.kind = .function := by rfl) : Wq prog w A (storeName env x v) Q s := by
  obtain ⟨o, ho, v0, hp⟩ := H.get
  refine wpAny_storeName_cell hk hl hc ⟨o, ho, hp⟩ fun h' hv hs => h _ ?_
  obtain ⟨o', ho', hp'⟩ := hv
  exact H.upd hs ho' hp'
theorem IsCellO.n {v : Value} {o : Obj} (h : IsCellO v o) : IsCellN o := ⟨_, h⟩
/-- a def of the text's -/
structure FnAt (f : Heap) (a : Addr) (fd : FuncData) : Prop where
  at_ : f.get? a = some ⟨.type "function", none, .func fd, #[]⟩
  code : f.CodeRec fd.code fd.qualname
theorem FnAt.mono {f f' : Heap} {a fd} (x : FnAt f a fd) (h : Le f f') : FnAt f' a fd := ⟨h _ _ x.at_, x.code.keeps h⟩
structure Room (A : Around) (n : Nat) : Prop where
  hh : A.handled = none
  d : A.depth + n < recursionLimit
  u : A.units + 4 * n < cLine
theorem Room.le {A : Around} {n k : Nat} (x : Room A n) (h : k ≤ n) : Room A k := ⟨x.hh, by have := x.d; lia, by have := x.u; lia⟩
theorem Room.deeper {A : Around} {n : Nat} {e : Env} (x : Room A (n + 1)) : Room (A.deeper e) n := ⟨x.hh, by have := x.d; show A.depth + 1 + n < _; lia, by have := x.u; show A.units + 3 + 4 * n < _; lia⟩
theorem Room.in1 {A : Around} {n : Nat} (x : Room A (n + 1)) : Room A.in1 n := ⟨x.hh, by have := x.d; show A.depth + n < _; lia, by have := x.u; show A.units + 1 + 4 * n < _; lia⟩
theorem St.fn {fa : Addr} {fd : FuncData} (H : St B f N s) (hf : FnAt B.heap fa fd) : FnAt s.heap fa fd := (hf.mono H.base).mono H.sub
noncomputable def plainFd (fd : FuncData) (binds : List (Str × Value)) : Bool :=
  fd.scope.names.all (fun x => decide (x.2 ≠ .cell)) && (!fd.scope.isCoroutine) && (!fd.scope.isGenerator) && decide (fd.scope.kind = .function) && (binds.all fun x => decide (fd.scope.names.lookup x.1 = some .local))
theorem enter {fa : Addr} {fd : FuncData} {args : List Value} {l : List (Str × Value)} {body : List Stmt} {n : Nat} {Q : Value → Shared → Prop} (hA : Room A (n + 1)) (hf : FnAt B.heap fa fd) (hlim : B.heap.NoLimit) (H : St B f N s)
    (hbody : fd.body = .stmts body) (hbind : BindsTo s fd ⟨args, []⟩ l.reverse) (hp : plainFd fd l.reverse = true)
    (h : ∀ L s', St B f ((L, HasVars l) :: N) s' → Room (A.deeper (callEnv fd L fa)) n → Wq prog w (A.deeper (callEnv fd L fa)) (execs body (callEnv fd L fa)) (fun fl s'' => Q (match fl with | .ret v => v | _ => .none) s'') s') : Wq prog w A (call (.ref fa) args) Q s := by
  have hf' := H.fn hf
  simp only [plainFd, Bool.and_eq_true, decide_eq_true_eq, List.all_eq_true, Bool.not_eq_true'] at hp
  obtain ⟨⟨⟨⟨h1, h2⟩, h3⟩, h4⟩, h5⟩ := hp
  refine wpAny_call (codeAny_call_def (fd := fd) (body := body) (binds := l.reverse) (by have := hA.d; lia) hf'.at_ rfl ((hlim.keeps H.base).keeps H.sub) hf'.code hbody hbind h1 (locs (List.all_eq_true.mpr fun x hx => decide_eq_true (h5 x hx))) (fun h₁ hns hk₁ => ?_) h2 h3 h4)
  obtain ⟨o, es, ep, ho, hd, hks, hfi⟩ := hns
  refine wpAny_mono (h s.heap.objs.size _ (H.growNew hk₁ (get?_size _ (Nat.le_refl _)) ho ⟨es, ep, hd, hks, fun k v e => (hfi k).trans (by rw [List.reverse_reverse]; exact e)⟩) hA.deeper) (fun _ _ x => x) fun _ _ x => x.elim
theorem keeps_fn {fa : Addr} {fd : FuncData} (h : Heap) (X : FnAt h fa fd) : ∃ k, (k = Keeper.frame ∨ k = Keeper.machine ∨ k = Keeper.boundFrame) ∧ Looks (model prog w) h (keeperOf (.ref fa)) k :=
  ⟨.frame, .inl rfl, (Looks.ld (part := none) X.at_).andThen .now⟩
noncomputable def Lives (B : Shared) (s : Shared) : Prop := ∃ f N, St B f N s
theorem St.lives (H : St B f N s) : Lives B s := ⟨f, N, H⟩
/-- a call of a def by its name, one argument or more -/
theorem r_callfn {pos : Pos} {fa : Addr} {fd : FuncData} {e : Expr} {rest : List Expr} {Q : Value → Shared → Prop} (hf : FnAt B.heap fa fd)
    (h : Wq prog w A (spliced (backTo pos (starEach (e :: rest) env))) (fun vs s₁ => Lives B s₁ ∧ Wq prog w A (call (.ref fa) vs) Q s₁) s)
    (he : starEach (e :: rest) env = (false, eval e env) :: starEach rest env := by rfl) (hplain : (backTo pos (starEach rest env)).any (·.1) = false := by rfl) :
    Wq prog w A (callWith pos (.ref fa) [] (backTo pos (starEach (e :: rest) env)) []) Q s := by
  rw [he] at h ⊢
  refine callWith_of (P := fun h => FnAt h fa fd) (by show ((false || (backTo pos (starEach rest env)).any (·.1)) || false) = false; rw [hplain]; rfl) keeps_fn (evalArgs_plain (wpAny_mono h (fun vs s₁ h₁ => ⟨?_, h₁.2⟩) fun _ _ x => x))
  obtain ⟨f', N', H'⟩ := h₁.1
  exact H'.fn hf
theorem r_callfn0 {pos : Pos} {fa : Addr} {fd : FuncData} {Q : Value → Shared → Prop} (hf : FnAt B.heap fa fd) (H : St B f N s) (h : Wq prog w A (call (.ref fa) []) Q s) :
    Wq prog w A (callWith pos (.ref fa) [] (backTo pos (starEach [] env)) []) Q s :=
  callWith_of (P := fun h => FnAt h fa fd) rfl keeps_fn (evalArgs_nil3 ⟨H.fn hf, h⟩)
/-- the base: what the top left -/
structure Base (K : Frag) (B : Shared) : Prop where
  kin : K.In B.heap
  g : ∃ mg, B.heap.Ns mainGlobals mg ∧ ∀ n v, nsIn K mainGlobals n = some (some v) → mg n = some v
  b : ∃ mg mb, B.heap.Ns mainGlobals mg ∧ B.heap.Ns builtinsNs mb ∧ ∀ n v, nsIn K mainGlobals n = some none → bootBuiltins n = some v → n ≠ "__name__" → mg n = none ∧ mb n = some v
  lim : B.heap.NoLimit
theorem St.K {K : Frag} (H : St B f N s) (X : Base K B) : K.In s.heap := (X.kin.keeps H.base).keeps H.sub
theorem r_glob {K : Frag} {x : Str} {pos : Pos} {v : Value} {Q : Value → Shared → Prop} (X : Base K B) (H : St B f N s) (hx : env.kindOf x = some .globalImplicit) (e : nsIn K mainGlobals x = some (some v)) (h : Q v s)
    (hg : env.globals = mainGlobals := by rfl) (hk : env.scope.kind = .function := by rfl) (hd : (x == ("__debug__" : Str)) = false := by decide +kernel) : Wq prog w A (eval (.Name x pos) env) Q s := by
  obtain ⟨mg, hn, hm⟩ := X.g
  exact Name_function_global hk hx (loadGlobal_global (env := env) (by rw [hg]; exact (hn.keeps H.base).keeps H.sub) (hm _ _ e) h) hd
theorem r_blt {K : Frag} {x : Str} {pos : Pos} {v : Value} {Q : Value → Shared → Prop} (X : Base K B) (H : St B f N s) (hx : env.kindOf x = some .globalImplicit) (e : nsIn K mainGlobals x = some none) (hv : bootBuiltins x = some v) (hn : x ≠ "__name__") (h : Q v s)
    (hg : env.globals = mainGlobals := by rfl) (hb : env.builtins = builtinsNs := by rfl) (hk : env.scope.kind = .function := by rfl) (hd : (x == ("__debug__" : Str)) = false := by decide +kernel) : Wq prog w A (eval (.Name x pos) env) Q s := by
  obtain ⟨mg, mb, h1, h2, h3⟩ := X.b
  obtain ⟨h4, h5⟩ := h3 _ _ e hv hn
  exact Name_function_global hk hx (loadGlobal_builtin (env := env) (by rw [hg]; exact (h1.keeps H.base).keeps H.sub) h4 (by rw [hb]; exact (h2.keeps H.base).keeps H.sub) h5 h) hd
/-- displays -/
theorem r_newlist {vs : List Value} {Q : Value → Shared → Prop} (H : St B f N s) (h : ∀ a s', St B f ((a, IsLst vs) :: N) s' → Q (.ref a) s') (hsz : vs.length ≤ sizeLine) : Wq prog w A (newList vs) Q s :=
  wpAny_newObj_type (h _ _ (H.push (tk := s.toks) ⟨0, rfl⟩)) (by show vs.toArray.size ≤ sizeLine; rw [List.size_toArray]; exact hsz)
noncomputable def IsTupO (xs : List Value) : Pd := fun o => ∃ n, o = tupO xs.toArray n
theorem r_newtup {vs : List Value} {Q : Value → Shared → Prop} (H : St B f N s) (h : ∀ a s', St B f ((a, IsTupO vs) :: N) s' → Q (.ref a) s') (hsz : vs.length ≤ sizeLine) : Wq prog w A (newTuple vs) Q s :=
  wpAny_newObj_type (h _ _ (H.push (tk := s.toks) ⟨0, rfl⟩)) (by show vs.toArray.size ≤ sizeLine; rw [List.size_toArray]; exact hsz)
end
noncomputable def K0 (P : Params) : Frag := [(nat_lit 2, o2 P), (nat_lit 3, o3 P), (nat_lit 27, o27 P), (nat_lit 28, o28 P), (nat_lit 32, o32 P), (nat_lit 33, o33 P), (nat_lit 39, o39 P), (nat_lit 40, o40 P), (nat_lit 44, o44 P), (nat_lit 45, o45 P), (nat_lit 288, o288 P), (nat_lit 289, o289 P), (nat_lit 291, o291 P), (nat_lit 292, o292 P), (nat_lit 293, o293 P), (nat_lit 294, o294 P), (nat_lit 304, o304 P), (nat_lit 310, o310 P), (nat_lit 311, o311 P), (nat_lit 318, o318 P), (nat_lit 320, o320 P), (nat_lit 321, o321 P), (nat_lit 322, o322 P), (nat_lit 323, o323 P), (nat_lit 338, o338 P), (nat_lit 339, o339 P), (nat_lit 341, o341 P), (nat_lit 342, o342 P), (nat_lit 343, o343 P), (nat_lit 344, o344 P), (nat_lit 352, o352 P), (nat_lit 353, o353 P), (nat_lit 359, o359 P), (nat_lit 360, o360 P), (nat_lit 366, o366 P), (nat_lit 367, o367 P), (nat_lit 373, o373 P), (nat_lit 374, o374 P), (nat_lit 380, o380 P), (nat_lit 381, o381 P), (nat_lit 387, o387 P), (nat_lit 388, o388 P), (nat_lit 394, o394 P), (nat_lit 395, o395 P), (nat_lit 401, o401 P), (nat_lit 402, o402 P), (nat_lit 408, o408 P), (nat_lit 409, o409 P), (nat_lit 415, o415 P), (nat_lit 416, o416 P), (nat_lit 457, o457 P), (nat_lit 458, o458 P), (nat_lit 471, o471 P), (nat_lit 472, o472 P), (nat_lit 478, o478 P), (nat_lit 479, o479 P), (nat_lit 485, o485 P), (nat_lit 486, o486 P), (nat_lit 511, o511 P), (nat_lit 512, o512 P), (nat_lit 516, o516 P), (nat_lit 517, o517 P), (nat_lit 530, o530 P), (nat_lit 531, o531 P), (nat_lit 533, o533 P), (nat_lit 534, o534 P), (nat_lit 535, o535 P), (nat_lit 536, o536 P), (nat_lit 544, o544 P), (nat_lit 545, o545 P), (nat_lit 551, o551 P), (nat_lit 552, o552 P), (nat_lit 558, o558 P), (nat_lit 559, o559 P), (nat_lit 565, o565 P), (nat_lit 566, o566 P), (nat_lit 572, o572 P), (nat_lit 573, o573 P), (nat_lit 579, o579 P), (nat_lit 580, o580 P), (nat_lit 586, o586 P), (nat_lit 587, o587 P), (nat_lit 593, o593 P), (nat_lit 594, o594 P), (nat_lit 600, o600 P), (nat_lit 601, o601 P), (nat_lit 607, o607 P), (nat_lit 608, o608 P), (nat_lit 614, o614 P), (nat_lit 615, o615 P), (nat_lit 619, o619 P), (nat_lit 620, o620 P), (nat_lit 624, o624 P), (nat_lit 625, o625 P), (nat_lit 631, o631 P), (nat_lit 632, o632 P), (nat_lit 638, o638 P), (nat_lit 639, o639 P), (nat_lit 643, o643 P), (nat_lit 644, o644 P), (nat_lit 648, o648 P), (nat_lit 649, o649 P), (nat_lit 655, o655 P), (nat_lit 656, o656 P), (nat_lit 662, o662 P), (nat_lit 663, o663 P), (nat_lit 669, o669 P), (nat_lit 670, o670 P), (nat_lit 674, o674 P), (nat_lit 675, o675 P), (nat_lit 679, o679 P), (nat_lit 680, o680 P), (nat_lit 684, o684 P), (nat_lit 685, o685 P), (nat_lit 691, o691 P), (nat_lit 692, o692 P), (nat_lit 696, o696 P), (nat_lit 697, o697 P), (nat_lit 701, o701 P), (nat_lit 702, o702 P)]
noncomputable def as0 : List Addr := [2, 3, 27, 28, 32, 33, 39, 40, 44, 45, 288, 289, 291, 292, 293, 294, 304, 310, 311, 318, 320, 321, 322, 323, 338, 339, 341, 342, 343, 344, 352, 353, 359, 360, 366, 367, 373, 374, 380, 381, 387, 388, 394, 395, 401, 402, 408, 409, 415, 416, 457, 458, 471, 472, 478, 479, 485, 486, 511, 512, 516, 517, 530, 531, 533, 534, 535, 536, 544, 545, 551, 552, 558, 559, 565, 566, 572, 573, 579, 580, 586, 587, 593, 594, 600, 601, 607, 608, 614, 615, 619, 620, 624, 625, 631, 632, 638, 639, 643, 644, 648, 649, 655, 656, 662, 663, 669, 670, 674, 675, 679, 680, 684, 685, 691, 692, 696, 697, 701, 702]
theorem as0_ok (P : Params) : as0 = (K0 P).map (·.1) := by kernel_rfl
theorem K0_get (P : Params) : as0.map (H1 P).get? = (K0 P).map (fun p => some p.2) := by kernel_rfl
theorem K0_in (P : Params) : (K0 P).In (H1 P) := Frag.in_of (as0_ok P) (K0_get P)
noncomputable def codeOk (K : Frag) (fd : FuncData) : Bool := match fd.code with
  | .ref c => (match K.lookup c with
    | some o => (match o.data with
      | .fields vs => (match (vs[1]? : Option Value) with
        | some (Value.str q _) => decide (q = fd.qualname)
        | _ => false)
      | _ => false)
    | none => false)
  | _ => false
theorem fnAt0 {K : Frag} {h : Heap} (X : K.In h) {a : Addr} {fd : FuncData} (h1 : K.lookup a = some ⟨.type "function", none, .func fd, #[]⟩) (h2 : codeOk K fd = true) : FnAt h a fd := by
  refine ⟨X _ _ h1, ?_⟩
  unfold codeOk at h2
  split at h2
  · rename_i c e1
    split at h2
    · rename_i o e2
      split at h2
      · rename_i vs e3
        split at h2
        · rename_i q t e4
          obtain ⟨c1, c2, c3, c4⟩ := o
          dsimp only at e3
          subst e3
          exact ⟨c, _, vs, t, e1, X _ _ e2, rfl, by rw [e4, of_decide_eq_true h2]⟩
        · cases h2
      · cases h2
    · cases h2
  · cases h2
theorem fn_get_attr {P : Params} {B : Shared} (X : Base (K0 P) B) : FnAt B.heap 28 F28 := fnAt0 X.kin (by kernel_rfl) (by kernel_rfl)
theorem nm_get_attr (P : Params) : nsIn (K0 P) mainGlobals (Str.ofString "get_attr") = some (some (.ref 28)) := by kernel_rfl
theorem fn_names_of {P : Params} {B : Shared} (X : Base (K0 P) B) : FnAt B.heap 33 F33 := fnAt0 X.kin (by kernel_rfl) (by kernel_rfl)
theorem nm_names_of (P : Params) : nsIn (K0 P) mainGlobals (Str.ofString "names_of") = some (some (.ref 33)) := by kernel_rfl
theorem fn_dim_of {P : Params} {B : Shared} (X : Base (K0 P) B) : FnAt B.heap 40 F40 := fnAt0 X.kin (by kernel_rfl) (by kernel_rfl)
theorem nm_dim_of (P : Params) : nsIn (K0 P) mainGlobals (Str.ofString "dim_of") = some (some (.ref 40)) := by kernel_rfl
theorem fn_dimnames_of {P : Params} {B : Shared} (X : Base (K0 P) B) : FnAt B.heap 45 F45 := fnAt0 X.kin (by kernel_rfl) (by kernel_rfl)
theorem nm_dimnames_of (P : Params) : nsIn (K0 P) mainGlobals (Str.ofString "dimnames_of") = some (some (.ref 45)) := by kernel_rfl
theorem fn_Null_init {P : Params} {B : Shared} (X : Base (K0 P) B) : FnAt B.heap 289 F289 := fnAt0 X.kin (by kernel_rfl) (by kernel_rfl)
theorem fn_Vector_init {P : Params} {B : Shared} (X : Base (K0 P) B) : FnAt B.heap 311 F311 := fnAt0 X.kin (by kernel_rfl) (by kernel_rfl)
theorem fn_Symbol_init {P : Params} {B : Shared} (X : Base (K0 P) B) : FnAt B.heap 339 F339 := fnAt0 X.kin (by kernel_rfl) (by kernel_rfl)
theorem fn_room {P : Params} {B : Shared} (X : Base (K0 P) B) : FnAt B.heap 353 F353 := fnAt0 X.kin (by kernel_rfl) (by kernel_rfl)
theorem nm_room (P : Params) : nsIn (K0 P) mainGlobals (Str.ofString "room") = some (some (.ref 353)) := by kernel_rfl
theorem fn_null {P : Params} {B : Shared} (X : Base (K0 P) B) : FnAt B.heap 360 F360 := fnAt0 X.kin (by kernel_rfl) (by kernel_rfl)
theorem nm_null (P : Params) : nsIn (K0 P) mainGlobals (Str.ofString "null") = some (some (.ref 360)) := by kernel_rfl
theorem fn_character {P : Params} {B : Shared} (X : Base (K0 P) B) : FnAt B.heap 367 F367 := fnAt0 X.kin (by kernel_rfl) (by kernel_rfl)
theorem nm_character (P : Params) : nsIn (K0 P) mainGlobals (Str.ofString "character") = some (some (.ref 367)) := by kernel_rfl
theorem fn_named {P : Params} {B : Shared} (X : Base (K0 P) B) : FnAt B.heap 374 F374 := fnAt0 X.kin (by kernel_rfl) (by kernel_rfl)
theorem nm_named (P : Params) : nsIn (K0 P) mainGlobals (Str.ofString "named") = some (some (.ref 374)) := by kernel_rfl
theorem fn_length {P : Params} {B : Shared} (X : Base (K0 P) B) : FnAt B.heap 381 F381 := fnAt0 X.kin (by kernel_rfl) (by kernel_rfl)
theorem nm_length (P : Params) : nsIn (K0 P) mainGlobals (Str.ofString "length") = some (some (.ref 381)) := by kernel_rfl
theorem fn_is_vector {P : Params} {B : Shared} (X : Base (K0 P) B) : FnAt B.heap 388 F388 := fnAt0 X.kin (by kernel_rfl) (by kernel_rfl)
theorem nm_is_vector (P : Params) : nsIn (K0 P) mainGlobals (Str.ofString "is_vector") = some (some (.ref 388)) := by kernel_rfl
theorem fn_is_atomic {P : Params} {B : Shared} (X : Base (K0 P) B) : FnAt B.heap 395 F395 := fnAt0 X.kin (by kernel_rfl) (by kernel_rfl)
theorem nm_is_atomic (P : Params) : nsIn (K0 P) mainGlobals (Str.ofString "is_atomic") = some (some (.ref 395)) := by kernel_rfl
theorem fn_share {P : Params} {B : Shared} (X : Base (K0 P) B) : FnAt B.heap 402 F402 := fnAt0 X.kin (by kernel_rfl) (by kernel_rfl)
theorem nm_share (P : Params) : nsIn (K0 P) mainGlobals (Str.ofString "share") = some (some (.ref 402)) := by kernel_rfl
theorem fn_kind_order {P : Params} {B : Shared} (X : Base (K0 P) B) : FnAt B.heap 409 F409 := fnAt0 X.kin (by kernel_rfl) (by kernel_rfl)
theorem nm_kind_order (P : Params) : nsIn (K0 P) mainGlobals (Str.ofString "kind_order") = some (some (.ref 409)) := by kernel_rfl
theorem fn_common_kind {P : Params} {B : Shared} (X : Base (K0 P) B) : FnAt B.heap 416 F416 := fnAt0 X.kin (by kernel_rfl) (by kernel_rfl)
theorem nm_common_kind (P : Params) : nsIn (K0 P) mainGlobals (Str.ofString "common_kind") = some (some (.ref 416)) := by kernel_rfl
theorem fn_to_integer {P : Params} {B : Shared} (X : Base (K0 P) B) : FnAt B.heap 458 F458 := fnAt0 X.kin (by kernel_rfl) (by kernel_rfl)
theorem nm_to_integer (P : Params) : nsIn (K0 P) mainGlobals (Str.ofString "to_integer") = some (some (.ref 458)) := by kernel_rfl
theorem fn_to_text {P : Params} {B : Shared} (X : Base (K0 P) B) : FnAt B.heap 472 F472 := fnAt0 X.kin (by kernel_rfl) (by kernel_rfl)
theorem nm_to_text (P : Params) : nsIn (K0 P) mainGlobals (Str.ofString "to_text") = some (some (.ref 472)) := by kernel_rfl
theorem fn_item_as {P : Params} {B : Shared} (X : Base (K0 P) B) : FnAt B.heap 479 F479 := fnAt0 X.kin (by kernel_rfl) (by kernel_rfl)
theorem nm_item_as (P : Params) : nsIn (K0 P) mainGlobals (Str.ofString "item_as") = some (some (.ref 479)) := by kernel_rfl
theorem fn_is_atomic_kind {P : Params} {B : Shared} (X : Base (K0 P) B) : FnAt B.heap 486 F486 := fnAt0 X.kin (by kernel_rfl) (by kernel_rfl)
theorem nm_is_atomic_kind (P : Params) : nsIn (K0 P) mainGlobals (Str.ofString "is_atomic_kind") = some (some (.ref 486)) := by kernel_rfl
theorem fn_with_names {P : Params} {B : Shared} (X : Base (K0 P) B) : FnAt B.heap 512 F512 := fnAt0 X.kin (by kernel_rfl) (by kernel_rfl)
theorem nm_with_names (P : Params) : nsIn (K0 P) mainGlobals (Str.ofString "with_names") = some (some (.ref 512)) := by kernel_rfl
theorem fn_as_kind {P : Params} {B : Shared} (X : Base (K0 P) B) : FnAt B.heap 517 F517 := fnAt0 X.kin (by kernel_rfl) (by kernel_rfl)
theorem nm_as_kind (P : Params) : nsIn (K0 P) mainGlobals (Str.ofString "as_kind") = some (some (.ref 517)) := by kernel_rfl
theorem fn_NameRow_init {P : Params} {B : Shared} (X : Base (K0 P) B) : FnAt B.heap 531 F531 := fnAt0 X.kin (by kernel_rfl) (by kernel_rfl)
theorem fn_opens {P : Params} {B : Shared} (X : Base (K0 P) B) : FnAt B.heap 545 F545 := fnAt0 X.kin (by kernel_rfl) (by kernel_rfl)
theorem nm_opens (P : Params) : nsIn (K0 P) mainGlobals (Str.ofString "opens") = some (some (.ref 545)) := by kernel_rfl
theorem fn_count_leaves {P : Params} {B : Shared} (X : Base (K0 P) B) : FnAt B.heap 552 F552 := fnAt0 X.kin (by kernel_rfl) (by kernel_rfl)
theorem nm_count_leaves (P : Params) : nsIn (K0 P) mainGlobals (Str.ofString "count_leaves") = some (some (.ref 552)) := by kernel_rfl
theorem fn_inner_text {P : Params} {B : Shared} (X : Base (K0 P) B) : FnAt B.heap 559 F559 := fnAt0 X.kin (by kernel_rfl) (by kernel_rfl)
theorem nm_inner_text (P : Params) : nsIn (K0 P) mainGlobals (Str.ofString "inner_text") = some (some (.ref 559)) := by kernel_rfl
theorem fn_joined_base {P : Params} {B : Shared} (X : Base (K0 P) B) : FnAt B.heap 566 F566 := fnAt0 X.kin (by kernel_rfl) (by kernel_rfl)
theorem nm_joined_base (P : Params) : nsIn (K0 P) mainGlobals (Str.ofString "joined_base") = some (some (.ref 566)) := by kernel_rfl
theorem fn_leaf_name {P : Params} {B : Shared} (X : Base (K0 P) B) : FnAt B.heap 573 F573 := fnAt0 X.kin (by kernel_rfl) (by kernel_rfl)
theorem nm_leaf_name (P : Params) : nsIn (K0 P) mainGlobals (Str.ofString "leaf_name") = some (some (.ref 573)) := by kernel_rfl
theorem fn_plain_names {P : Params} {B : Shared} (X : Base (K0 P) B) : FnAt B.heap 580 F580 := fnAt0 X.kin (by kernel_rfl) (by kernel_rfl)
theorem nm_plain_names (P : Params) : nsIn (K0 P) mainGlobals (Str.ofString "plain_names") = some (some (.ref 580)) := by kernel_rfl
theorem fn_extract_names {P : Params} {B : Shared} (X : Base (K0 P) B) : FnAt B.heap 587 F587 := fnAt0 X.kin (by kernel_rfl) (by kernel_rfl)
theorem nm_extract_names (P : Params) : nsIn (K0 P) mainGlobals (Str.ofString "extract_names") = some (some (.ref 587)) := by kernel_rfl
theorem fn_has_names {P : Params} {B : Shared} (X : Base (K0 P) B) : FnAt B.heap 594 F594 := fnAt0 X.kin (by kernel_rfl) (by kernel_rfl)
theorem nm_has_names (P : Params) : nsIn (K0 P) mainGlobals (Str.ofString "has_names") = some (some (.ref 594)) := by kernel_rfl
theorem fn_joined_names {P : Params} {B : Shared} (X : Base (K0 P) B) : FnAt B.heap 601 F601 := fnAt0 X.kin (by kernel_rfl) (by kernel_rfl)
theorem nm_joined_names (P : Params) : nsIn (K0 P) mainGlobals (Str.ofString "joined_names") = some (some (.ref 601)) := by kernel_rfl
theorem fn_gather {P : Params} {B : Shared} (X : Base (K0 P) B) : FnAt B.heap 608 F608 := fnAt0 X.kin (by kernel_rfl) (by kernel_rfl)
theorem nm_gather (P : Params) : nsIn (K0 P) mainGlobals (Str.ofString "gather") = some (some (.ref 608)) := by kernel_rfl
theorem fn_part_items {P : Params} {B : Shared} (X : Base (K0 P) B) : FnAt B.heap 615 F615 := fnAt0 X.kin (by kernel_rfl) (by kernel_rfl)
theorem nm_part_items (P : Params) : nsIn (K0 P) mainGlobals (Str.ofString "part_items") = some (some (.ref 615)) := by kernel_rfl
theorem fn_combined {P : Params} {B : Shared} (X : Base (K0 P) B) : FnAt B.heap 620 F620 := fnAt0 X.kin (by kernel_rfl) (by kernel_rfl)
theorem nm_combined (P : Params) : nsIn (K0 P) mainGlobals (Str.ofString "combined") = some (some (.ref 620)) := by kernel_rfl
theorem fn_unlisted {P : Params} {B : Shared} (X : Base (K0 P) B) : FnAt B.heap 625 F625 := fnAt0 X.kin (by kernel_rfl) (by kernel_rfl)
theorem nm_unlisted (P : Params) : nsIn (K0 P) mainGlobals (Str.ofString "unlisted") = some (some (.ref 625)) := by kernel_rfl
theorem fn_law_gulp {P : Params} {B : Shared} (X : Base (K0 P) B) : FnAt B.heap 632 F632 := fnAt0 X.kin (by kernel_rfl) (by kernel_rfl)
theorem nm_law_gulp (P : Params) : nsIn (K0 P) mainGlobals (Str.ofString "_law_gulp") = some (some (.ref 632)) := by kernel_rfl
theorem fn_law_tag {P : Params} {B : Shared} (X : Base (K0 P) B) : FnAt B.heap 639 F639 := fnAt0 X.kin (by kernel_rfl) (by kernel_rfl)
theorem nm_law_tag (P : Params) : nsIn (K0 P) mainGlobals (Str.ofString "_law_tag") = some (some (.ref 639)) := by kernel_rfl
theorem fn_law_plan {P : Params} {B : Shared} (X : Base (K0 P) B) : FnAt B.heap 644 F644 := fnAt0 X.kin (by kernel_rfl) (by kernel_rfl)
theorem nm_law_plan (P : Params) : nsIn (K0 P) mainGlobals (Str.ofString "_law_plan") = some (some (.ref 644)) := by kernel_rfl
theorem fn_law_value {P : Params} {B : Shared} (X : Base (K0 P) B) : FnAt B.heap 649 F649 := fnAt0 X.kin (by kernel_rfl) (by kernel_rfl)
theorem nm_law_value (P : Params) : nsIn (K0 P) mainGlobals (Str.ofString "_law_value") = some (some (.ref 649)) := by kernel_rfl
theorem fn_law_behind {P : Params} {B : Shared} (X : Base (K0 P) B) : FnAt B.heap 656 F656 := fnAt0 X.kin (by kernel_rfl) (by kernel_rfl)
theorem nm_law_behind (P : Params) : nsIn (K0 P) mainGlobals (Str.ofString "_law_behind") = some (some (.ref 656)) := by kernel_rfl
theorem fn_law_is_open {P : Params} {B : Shared} (X : Base (K0 P) B) : FnAt B.heap 663 F663 := fnAt0 X.kin (by kernel_rfl) (by kernel_rfl)
theorem nm_law_is_open (P : Params) : nsIn (K0 P) mainGlobals (Str.ofString "_law_is_open") = some (some (.ref 663)) := by kernel_rfl
theorem fn_law_spread {P : Params} {B : Shared} (X : Base (K0 P) B) : FnAt B.heap 670 F670 := fnAt0 X.kin (by kernel_rfl) (by kernel_rfl)
theorem nm_law_spread (P : Params) : nsIn (K0 P) mainGlobals (Str.ofString "_law_spread") = some (some (.ref 670)) := by kernel_rfl
theorem fn_law_kinds {P : Params} {B : Shared} (X : Base (K0 P) B) : FnAt B.heap 675 F675 := fnAt0 X.kin (by kernel_rfl) (by kernel_rfl)
theorem nm_law_kinds (P : Params) : nsIn (K0 P) mainGlobals (Str.ofString "_law_kinds") = some (some (.ref 675)) := by kernel_rfl
theorem fn_law_is_named {P : Params} {B : Shared} (X : Base (K0 P) B) : FnAt B.heap 680 F680 := fnAt0 X.kin (by kernel_rfl) (by kernel_rfl)
theorem nm_law_is_named (P : Params) : nsIn (K0 P) mainGlobals (Str.ofString "_law_is_named") = some (some (.ref 680)) := by kernel_rfl
theorem fn_law_names {P : Params} {B : Shared} (X : Base (K0 P) B) : FnAt B.heap 685 F685 := fnAt0 X.kin (by kernel_rfl) (by kernel_rfl)
theorem nm_law_names (P : Params) : nsIn (K0 P) mainGlobals (Str.ofString "_law_names") = some (some (.ref 685)) := by kernel_rfl
theorem fn_law_raised {P : Params} {B : Shared} (X : Base (K0 P) B) : FnAt B.heap 692 F692 := fnAt0 X.kin (by kernel_rfl) (by kernel_rfl)
theorem nm_law_raised (P : Params) : nsIn (K0 P) mainGlobals (Str.ofString "_law_raised") = some (some (.ref 692)) := by kernel_rfl
theorem fn_law_is_due {P : Params} {B : Shared} (X : Base (K0 P) B) : FnAt B.heap 697 F697 := fnAt0 X.kin (by kernel_rfl) (by kernel_rfl)
theorem nm_law_is_due (P : Params) : nsIn (K0 P) mainGlobals (Str.ofString "_law_is_due") = some (some (.ref 697)) := by kernel_rfl
theorem fn_law {P : Params} {B : Shared} (X : Base (K0 P) B) : FnAt B.heap 702 F702 := fnAt0 X.kin (by kernel_rfl) (by kernel_rfl)
theorem nm_law (P : Params) : nsIn (K0 P) mainGlobals (Str.ofString "law") = some (some (.ref 702)) := by kernel_rfl
theorem nm_Null (P : Params) : nsIn (K0 P) mainGlobals (Str.ofString "Null") = some (some (.ref 292)) := by kernel_rfl
theorem nm_Vector (P : Params) : nsIn (K0 P) mainGlobals (Str.ofString "Vector") = some (some (.ref 321)) := by kernel_rfl
theorem nm_Symbol (P : Params) : nsIn (K0 P) mainGlobals (Str.ofString "Symbol") = some (some (.ref 342)) := by kernel_rfl
theorem nm_NameRow (P : Params) : nsIn (K0 P) mainGlobals (Str.ofString "NameRow") = some (some (.ref 534)) := by kernel_rfl
theorem bt_len (P : Params) : nsIn (K0 P) mainGlobals (Str.ofString "len") = some none := by kernel_rfl
theorem bt_range (P : Params) : nsIn (K0 P) mainGlobals (Str.ofString "range") = some none := by kernel_rfl
theorem bt_isinstance (P : Params) : nsIn (K0 P) mainGlobals (Str.ofString "isinstance") = some none := by kernel_rfl
theorem bt_list (P : Params) : nsIn (K0 P) mainGlobals (Str.ofString "list") = some none := by kernel_rfl
theorem bt_max (P : Params) : nsIn (K0 P) mainGlobals (Str.ofString "max") = some none := by kernel_rfl
theorem bt_str (P : Params) : nsIn (K0 P) mainGlobals (Str.ofString "str") = some none := by kernel_rfl
theorem bt_sorted (P : Params) : nsIn (K0 P) mainGlobals (Str.ofString "sorted") = some none := by kernel_rfl
theorem bt_abs (P : Params) : nsIn (K0 P) mainGlobals (Str.ofString "abs") = some none := by kernel_rfl
theorem Mp_skip {k k' : Str} {v' : Value} {l : List (Str × Value)} (hn : (k == k') = false) : Mp ((k', v') :: l) k = Mp l k := by simp [Mp, List.lookup_cons, hn]
theorem Mp_1 {k k1 : Str} {v1 v : Value} {l : List (Str × Value)} (h1 : (k == k1) = false) : Mp ((k1, v1) :: (k, v) :: l) k = some v := (Mp_skip h1).trans Mp_hd
theorem Mp_2 {k k1 k2 : Str} {v1 v2 v : Value} {l : List (Str × Value)} (h1 : (k == k1) = false) (h2 : (k == k2) = false) : Mp ((k1, v1) :: (k2, v2) :: (k, v) :: l) k = some v := (Mp_skip h1).trans ((Mp_skip h2).trans Mp_hd)
theorem Mp_3 {k k1 k2 k3 : Str} {v1 v2 v3 v : Value} {l : List (Str × Value)} (h1 : (k == k1) = false) (h2 : (k == k2) = false) (h3 : (k == k3) = false) : Mp ((k1, v1) :: (k2, v2) :: (k3, v3) :: (k, v) :: l) k = some v := (Mp_skip h1).trans ((Mp_skip h2).trans ((Mp_skip h3).trans Mp_hd))
theorem Mp_4 {k k1 k2 k3 k4 : Str} {v1 v2 v3 v4 v : Value} {l : List (Str × Value)} (h1 : (k == k1) = false) (h2 : (k == k2) = false) (h3 : (k == k3) = false) (h4 : (k == k4) = false) : Mp ((k1, v1) :: (k2, v2) :: (k3, v3) :: (k4, v4) :: (k, v) :: l) k = some v := (Mp_skip h1).trans ((Mp_skip h2).trans ((Mp_skip h3).trans ((Mp_skip h4).trans Mp_hd)))
theorem Mp_5 {k k1 k2 k3 k4 k5 : Str} {v1 v2 v3 v4 v5 v : Value} {l : List (Str × Value)} (h1 : (k == k1) = false) (h2 : (k == k2) = false) (h3 : (k == k3) = false) (h4 : (k == k4) = false) (h5 : (k == k5) = false) : Mp ((k1, v1) :: (k2, v2) :: (k3, v3) :: (k4, v4) :: (k5, v5) :: (k, v) :: l) k = some v := (Mp_skip h1).trans ((Mp_skip h2).trans ((Mp_skip h3).trans ((Mp_skip h4).trans ((Mp_skip h5).trans Mp_hd))))
theorem Mp_6 {k k1 k2 k3 k4 k5 k6 : Str} {v1 v2 v3 v4 v5 v6 v : Value} {l : List (Str × Value)} (h1 : (k == k1) = false) (h2 : (k == k2) = false) (h3 : (k == k3) = false) (h4 : (k == k4) = false) (h5 : (k == k5) = false) (h6 : (k == k6) = false) : Mp ((k1, v1) :: (k2, v2) :: (k3, v3) :: (k4, v4) :: (k5, v5) :: (k6, v6) :: (k, v) :: l) k = some v := (Mp_skip h1).trans ((Mp_skip h2).trans ((Mp_skip h3).trans ((Mp_skip h4).trans ((Mp_skip h5).trans ((Mp_skip h6).trans Mp_hd)))))
theorem Mp_7 {k k1 k2 k3 k4 k5 k6 k7 : Str} {v1 v2 v3 v4 v5 v6 v7 v : Value} {l : List (Str × Value)} (h1 : (k == k1) = false) (h2 : (k == k2) = false) (h3 : (k == k3) = false) (h4 : (k == k4) = false) (h5 : (k == k5) = false) (h6 : (k == k6) = false) (h7 : (k == k7) = false) : Mp ((k1, v1) :: (k2, v2) :: (k3, v3) :: (k4, v4) :: (k5, v5) :: (k6, v6) :: (k7, v7) :: (k, v) :: l) k = some v := (Mp_skip h1).trans ((Mp_skip h2).trans ((Mp_skip h3).trans ((Mp_skip h4).trans ((Mp_skip h5).trans ((Mp_skip h6).trans ((Mp_skip h7).trans Mp_hd))))))
noncomputable def At (h : Heap) (a : Addr) (P : Pd) : Prop := ∃ o, h.get? a = some o ∧ P o
theorem At.mono {f f' : Heap} {a P} (x : At f a P) (h : Le f f') : At f' a P := let ⟨o, h1, h2⟩ := x; ⟨o, h _ _ h1, h2⟩
theorem At.imp {f : Heap} {a} {P P' : Pd} (x : At f a P) (h : ∀ o, P o → P' o) : At f a P' := let ⟨o, h1, h2⟩ := x; ⟨o, h1, h _ h2⟩
noncomputable def LstW (items : Array Value) : Pd := fun o => o.cls = .type "list" ∧ ∃ n, o.data = .seq items n
theorem IsLst.w {vs : List Value} {o : Obj} (h : IsLst vs o) : LstW vs.toArray o := by obtain ⟨n, rfl⟩ := h; exact ⟨rfl, n, rfl⟩
theorem At.isList {h : Heap} {a : Addr} {items : Array Value} (x : At h a (LstW items)) : h.IsList a items := let ⟨o, h1, h2, h3⟩ := x; ⟨o, h1, h2, h3⟩
theorem At.lst {h : Heap} {a : Addr} {vs : List Value} (x : At h a (IsLst vs)) : h.IsList a vs.toArray := (x.imp fun _ => IsLst.w).isList
inductive Ext (x : Addr × Pd) : Led → Led → Prop
  | head {M : Led} : Ext x (x :: M) M
  | tail {y : Addr × Pd} {M M' : Led} : Ext x M M' → Ext x (y :: M) (y :: M')
theorem Ext.perm {x : Addr × Pd} {M M' : Led} (h : Ext x M M') : List.Perm M (x :: M') := by
  induction h with
  | head => exact .refl _
  | tail _ ih => exact (List.Perm.cons _ ih).trans (.swap ..)
inductive Sel : Led → Led → Prop
  | refl {M : Led} : Sel M M
  | cons {x : Addr × Pd} {N' M M' : Led} : Ext x M M' → Sel N' M' → Sel (x :: N') M
  | drop {y : Addr × Pd} {N' M : Led} : Sel N' M → Sel N' (y :: M)
theorem Sel.perm {N M : Led} (h : Sel N M) : ∃ R, List.Perm M (N ++ R) := by
  induction h with
  | refl => exact ⟨[], by rw [List.append_nil]⟩
  | cons e _ ih => obtain ⟨R, hr⟩ := ih; exact ⟨R, e.perm.trans (.cons _ hr)⟩
  | @drop y N' M _ ih => obtain ⟨R, hr⟩ := ih; exact ⟨y :: R, (List.Perm.cons y hr).trans List.perm_middle.symm⟩
section
variable {B : Shared} {f : Heap} {N : Led} {s : Shared}
theorem St.sel {M : Led} (H : St B f M s) (h : Sel N M) : St B f N s := by
  obtain ⟨R, hr⟩ := h.perm
  have H' := H.perm (N' := N ++ R) hr.symm
  exact ⟨H'.sh, H'.base, H'.sub, fun q hq => H'.own q (List.mem_append_left _ hq), by have := H'.nd; rw [List.map_append] at this; exact (List.nodup_append.mp this).1⟩
theorem St.pull {x : Addr × Pd} {M M' : Led} (H : St B f M s) (h : Ext x M M') : St B f (x :: M') s := H.perm h.perm.symm
theorem St.at (H : St B f N s) {a P} (x : At f a P) : At s.heap a P := x.mono H.sub
theorem St.mem (H : St B f N s) {a P} (x : (a, P) ∈ N) : At s.heap a P := (H.own _ x).2
theorem St.lose {a : Addr} {P : Pd} {h' : Heap} {tk : Tok} (H : St B f ((a, P) :: N) s) (hs : Heap.ExtBut a s.heap h') : St B f N { s with heap := h', toks := tk } := by
  have hfa := (H.own _ (.head _)).1
  refine ⟨?_, H.base, fun b o e => ?_, fun q hq => ?_, H.drop.nd⟩
  · obtain ⟨h, t, rfl⟩ := H.sh; exact ⟨h', tk, rfl⟩
  · exact hs b o (fun q => by subst q; rw [hfa] at e; cases e) (H.sub b o e)
  · obtain ⟨h1, o, h2, h3⟩ := H.own q (.tail _ hq)
    exact ⟨h1, o, hs _ _ (H.notin hq) h2, h3⟩
theorem St.ex {α : Sort _} {a : Addr} {P : α → Pd} (H : St B f ((a, fun o => ∃ x, P x o) :: N) s) : ∃ x, St B f ((a, P x) :: N) s := by
  obtain ⟨o, ho, x, hx⟩ := H.get
  refine ⟨x, H.sh, H.base, H.sub, fun q hq => ?_, by simpa using H.nd⟩
  rcases List.mem_cons.mp hq with rfl | hq
  · exact ⟨(H.own _ (.head _)).1, o, ho, hx⟩
  · exact H.own q (.tail _ hq)
theorem St.an {p : Prop} {a : Addr} {P : Pd} (H : St B f ((a, fun o => p ∧ P o) :: N) s) : p ∧ St B f ((a, P) :: N) s := by
  obtain ⟨o, ho, x, hx⟩ := H.get
  exact ⟨x, H.imp fun o h => h.2⟩
/-- the heap grown but at a new place -/
theorem St.ext {h' : Heap} {tk : Tok} (H : St B f N s) (hs : Heap.ExtBut s.heap.objs.size s.heap h') : St B f N { s with heap := h', toks := tk } :=
  H.grow fun b o e => hs b o (Nat.ne_of_lt (Heap.lt_size e)) e
end
section
variable {prog : Program} {w : World} {B : Shared} {f : Heap} {N : Led} {s : Shared} {A : Around} {env : Env}
/-- rules over the ledger by place -/
theorem m_local {x : Str} {pos : Pos} {l : List (Str × Value)} {v : Value} {Q : Value → Shared → Prop} (hl : env.kindOf x = some .local) (H : St B f N s) (hm : (env.locals, HasVars l) ∈ N) (hv : Mp l x = some v) (h : Q v s)
    (hk : env.scope.kind = .function := by rfl) (hd : (x == ("__debug__" : Str)) = false := by decide +kernel) : Wq prog w A (eval (.Name x pos) env) Q s := by
  obtain ⟨_, o, ho, es, ep, hd', hk', hv'⟩ := H.own _ hm
  exact wpAny_Name (wpAny_loadName_local (m := fun n => nsFind es n) hk hl ⟨o, es, ep, ho, hd', hk', fun _ => rfl⟩ (hv' _ _ hv) h) hd
theorem m_loadlocal {x : Str} {l : List (Str × Value)} {v : Value} {Q : Value → Shared → Prop} (hl : env.kindOf x = some .local) (H : St B f N s) (hm : (env.locals, HasVars l) ∈ N) (hv : Mp l x = some v) (h : Q v s)
    (hk : env.scope.kind = .function := by rfl) : Wq prog w A (loadName env x) Q s := by
  obtain ⟨_, o, ho, es, ep, hd', hk', hv'⟩ := H.own _ hm
  exact wpAny_loadName_local (m := fun n => nsFind es n) hk hl ⟨o, es, ep, ho, hd', hk', fun _ => rfl⟩ (hv' _ _ hv) h
theorem m_cell {x : Str} {pos : Pos} {c : Addr} {v : Value} {Q : Value → Shared → Prop} (hl : env.kindOf x = some .cell) (hc : env.cells.lookup x = some c) (H : St B f N s) (hm : (c, IsCellO v) ∈ N) (h : Q v s)
    (hk : env.scope.kind = .function := by rfl) (hd : (x == ("__debug__" : Str)) = false := by decide +kernel) : Wq prog w A (eval (.Name x pos) env) Q s := by
  obtain ⟨_, o, ho, hp⟩ := H.own _ hm
  exact wpAny_Name (wpAny_loadName_cell hk hl hc ⟨o, ho, hp⟩ h) hd
/-- lists -/
theorem r_getitem {value slice : Expr} {l : Addr} {items : Array Value} {k : Int} {t : Tok} {x : Value} {Q : Value → Shared → Prop} (hl : s.heap.IsList l items) (h0 : 0 ≤ k) (hfit : k < 2 ^ 63) (hx : items[k.toNat]? = some x) (h : Q x s)
    (hs : subscripted slice false (.ref l) (.int k t) = operate [.ref l, .int k t] (getItem (.ref l) (.int k t)) := by with_unfolding_all rfl) : Wq prog w A (subscriptTail value slice (.ref l) (.int k t)) Q s :=
  tail_any hl.typeIs slot_list_getitem.lookup (wpAny_getItem_list hl h0 hfit hx h) hs
theorem r_getitem_neg {value slice : Expr} {l : Addr} {items : Array Value} {k : Int} {t : Tok} {x : Value} {Q : Value → Shared → Prop} (hl : s.heap.IsList l items) (h0 : k < 0) (h1 : -(items.size : Int) ≤ k) (hfit : -(2 ^ 63) ≤ k) (hx : items[(k + items.size).toNat]? = some x) (h : Q x s)
    (hs : subscripted slice false (.ref l) (.int k t) = operate [.ref l, .int k t] (getItem (.ref l) (.int k t)) := by with_unfolding_all rfl) : Wq prog w A (subscriptTail value slice (.ref l) (.int k t)) Q s :=
  tail_any hl.typeIs slot_list_getitem.lookup (wpAny_getItem_list_neg hl h0 h1 hfit hx h) hs
theorem r_get0 {value slice : Expr} {l : Addr} {x : Value} {r : List Value} {t : Tok} {Q : Value → Shared → Prop} (hl : s.heap.IsList l (x :: r).toArray) (h : Q x s)
    (hs : subscripted slice false (.ref l) (.int 0 t) = operate [.ref l, .int 0 t] (getItem (.ref l) (.int 0 t)) := by with_unfolding_all rfl) : Wq prog w A (subscriptTail value slice (.ref l) (.int 0 t)) Q s :=
  r_getitem hl (by decide) (by decide) (by simp) h hs
theorem r_get1 {value slice : Expr} {l : Addr} {y0 x : Value} {r : List Value} {t : Tok} {Q : Value → Shared → Prop} (hl : s.heap.IsList l (y0 :: x :: r).toArray) (h : Q x s)
    (hs : subscripted slice false (.ref l) (.int 1 t) = operate [.ref l, .int 1 t] (getItem (.ref l) (.int 1 t)) := by with_unfolding_all rfl) : Wq prog w A (subscriptTail value slice (.ref l) (.int 1 t)) Q s :=
  r_getitem hl (by decide) (by decide) (by simp) h hs
theorem r_get2 {value slice : Expr} {l : Addr} {y0 y1 x : Value} {r : List Value} {t : Tok} {Q : Value → Shared → Prop} (hl : s.heap.IsList l (y0 :: y1 :: x :: r).toArray) (h : Q x s)
    (hs : subscripted slice false (.ref l) (.int 2 t) = operate [.ref l, .int 2 t] (getItem (.ref l) (.int 2 t)) := by with_unfolding_all rfl) : Wq prog w A (subscriptTail value slice (.ref l) (.int 2 t)) Q s :=
  r_getitem hl (by decide) (by decide) (by simp) h hs
theorem r_get3 {value slice : Expr} {l : Addr} {y0 y1 y2 x : Value} {r : List Value} {t : Tok} {Q : Value → Shared → Prop} (hl : s.heap.IsList l (y0 :: y1 :: y2 :: x :: r).toArray) (h : Q x s)
    (hs : subscripted slice false (.ref l) (.int 3 t) = operate [.ref l, .int 3 t] (getItem (.ref l) (.int 3 t)) := by with_unfolding_all rfl) : Wq prog w A (subscriptTail value slice (.ref l) (.int 3 t)) Q s :=
  r_getitem hl (by decide) (by decide) (by simp) h hs
theorem r_setitem {l : Addr} {P : Pd} {items : Array Value} {k : Int} {t : Tok} {v : Value} {Q : Unit → Shared → Prop} (H : St B f ((l, P) :: N) s) (hw : ∀ o, P o → LstW items o) (h0 : 0 ≤ k) (hfit : k < 2 ^ 63) (hn : k < items.size)
    (h : ∀ s', St B f ((l, LstW (items.setIfInBounds k.toNat v)) :: N) s' → Q () s') : Wq prog w A (setItem (.ref l) (.int k t) v) Q s := by
  obtain ⟨o, ho, hp⟩ := H.get
  refine wpAny_setItem_list (At.isList ⟨o, ho, hw _ hp⟩) h0 hfit hn fun h' hl hs => h _ ?_
  obtain ⟨o', ho', h2, h3⟩ := hl
  exact H.upd hs ho' ⟨h2, h3⟩
theorem r_len {l : Addr} {items : Array Value} {Q : Value → Shared → Prop} (H : St B f N s) (hl : s.heap.IsList l items) (hfit : (items.size : Int) < 2 ^ 63) (h : ∀ t s', St B f N s' → Q (.int items.size t) s') :
    Wq prog w A (call (.builtin "len") [.ref l]) Q s := Calls.call_len_list hl hfit (h _ _ (H.tok _))
/-- numbers -/
theorem r_add {a b : Int} {t u : Tok} {Q : Value → Shared → Prop} (H : St B f N s) (h : ∀ t s', St B f N s' → Q (.int (a + b) t) s') : Wq prog w A (binaryOp .Add (.int a t) (.int b u)) Q s := PyProof.Rows.add_int (h _ _ (H.tok _))
theorem r_sub {a b : Int} {t u : Tok} {Q : Value → Shared → Prop} (H : St B f N s) (h : ∀ t s', St B f N s' → Q (.int (a - b) t) s') : Wq prog w A (binaryOp .Sub (.int a t) (.int b u)) Q s := PyProof.Rows.sub_int (h _ _ (H.tok _))
theorem r_mod {a b : Int} {t u : Tok} {Q : Value → Shared → Prop} (H : St B f N s) (hb : b ≠ 0) (h : ∀ t s', St B f N s' → Q (.int (a.fmod b) t) s') : Wq prog w A (binaryOp .Mod (.int a t) (.int b u)) Q s := PyProof.Rows.mod_int hb (h _ _ (H.tok _))
theorem r_lt {a b : Int} {t u : Tok} {Q : Value → Shared → Prop} (h : Q (.bool (decide (a < b))) s) : Wq prog w A (compareOp .Lt (.int a t) (.int b u)) Q s := PyProof.Rows.lt_int h
theorem r_gt {a b : Int} {t u : Tok} {Q : Value → Shared → Prop} (h : Q (.bool (decide (b < a))) s) : Wq prog w A (compareOp .Gt (.int a t) (.int b u)) Q s := PyProof.Rows.gt_int h
theorem r_eqi {a b : Int} {t u : Tok} {Q : Value → Shared → Prop} (h : Q (.bool (a == b)) s) : Wq prog w A (compareOp .Eq (.int a t) (.int b u)) Q s := PyProof.Rows.eq_int h
theorem r_truth {b : Bool} {Q : Bool → Shared → Prop} (h : Q b s) : Wq prog w A (truthy (.bool b)) Q s := wpAny_truthy_bool h
theorem r_blt1 {pos : Pos} {id : String} {e : Expr} {rest : List Expr} {Q : Value → Shared → Prop}
    (h : Wq prog w A (spliced (backTo pos (starEach (e :: rest) env))) (fun vs s₁ => Wq prog w A (call (.builtin id) vs) Q s₁) s)
    (he : starEach (e :: rest) env = (false, eval e env) :: starEach rest env := by rfl)
    (hplain : (backTo pos (starEach rest env)).any (·.1) = false := by rfl) :
    Wq prog w A (callWith pos (.builtin id) [] (backTo pos (starEach (e :: rest) env)) []) Q s := PyProof.Rows.callWith_builtin1 h he hplain
theorem r_eqs {x y : Str} {t u : Tok} {Q : Value → Shared → Prop} (h : Q (.bool (x == y)) s) : Wq prog w A (compareOp .Eq (.str x t) (.str y u)) Q s := PyProof.Rows.eq_str h
theorem r_nes {x y : Str} {t u : Tok} {Q : Value → Shared → Prop} (h : Q (.bool (x != y)) s) : Wq prog w A (compareOp .NotEq (.str x t) (.str y u)) Q s := PyProof.Rows.ne_str h
theorem r_isnone {v : Value} {Q : Value → Shared → Prop} (h : Q (.bool (v == .none)) s) : Wq prog w A (compareOp .Is v .none) Q s := is_none h
theorem r_notnone {v : Value} {Q : Value → Shared → Prop} (h : Q (.bool (v != .none)) s) : Wq prog w A (compareOp .IsNot v .none) Q s := isNot_none h
theorem r_ty1 {pos : Pos} {T : String} {e : Expr} {rest : List Expr} {Q : Value → Shared → Prop}
    (h : Wq prog w A (spliced (backTo pos (starEach (e :: rest) env))) (fun vs s₁ => Wq prog w A (call (.type T) vs) Q s₁) s)
    (he : starEach (e :: rest) env = (false, eval e env) :: starEach rest env := by rfl)
    (hplain : (backTo pos (starEach rest env)).any (·.1) = false := by rfl) :
    Wq prog w A (callWith pos (.type T) [] (backTo pos (starEach (e :: rest) env)) []) Q s := PyProof.Rows.callWith_type1 h he hplain
end
structure Wp (prog : Program) (w : World) {α : Type} (A : Around) (t : Sem α) (Q : α → Shared → Prop) (s : Shared) : Prop where
  run : Wq prog w A t Q s
noncomputable def Sq (prog : Program) (w : World) (A : Around) (rest : List Stmt) (env : Env) (Q : Flow → Shared → Prop) : Flow → Shared → Prop := fun f s' => match f with
  | .next => Wp prog w A (execs rest env) Q s'
  | f => Q f s'
section
variable {prog : Program} {w : World} {P : Params} {B : Shared} {f : Heap} {N : Led} {s : Shared} {A : Around} {env : Env}
theorem Wp.mono {α : Type} {t : Sem α} {Q Q' : α → Shared → Prop} (h : Wp prog w A t Q s) (hq : ∀ v s', Q v s' → Q' v s') : Wp prog w A t Q' s := ⟨wpAny_mono h.run hq fun _ _ x => x⟩
theorem Wq.mono {α : Type} {t : Sem α} {Q Q' : α → Shared → Prop} (h : Wq prog w A t Q s) (hq : ∀ v s', Q v s' → Q' v s') : Wq prog w A t Q' s := wpAny_mono h hq fun _ _ x => x
/-- statements -/
theorem W_cons {st rest} {Q : Flow → Shared → Prop} (h : Wp prog w A (exec st env) (Sq prog w A rest env Q) s) : Wp prog w A (execs (st :: rest) env) Q s :=
  ⟨wpAny_execs_cons (h.run.mono fun f s' x => by cases f <;> first | exact Wp.run x | exact x)⟩
theorem Sq_n {rest} {Q : Flow → Shared → Prop} (h : Wp prog w A (execs rest env) Q s) : Sq prog w A rest env Q .next s := h
theorem Sq_r {rest v} {Q : Flow → Shared → Prop} (h : Q (.ret v) s) : Sq prog w A rest env Q (.ret v) s := h
theorem Sq_b {rest} {Q : Flow → Shared → Prop} (h : Q .brk s) : Sq prog w A rest env Q .brk s := h
theorem Sq_c {rest} {Q : Flow → Shared → Prop} (h : Q .cont s) : Sq prog w A rest env Q .cont s := h
theorem W_nil {Q : Flow → Shared → Prop} (h : Q .next s) : Wp prog w A (execs [] env) Q s := ⟨wpAny_execs_nil h⟩
theorem W_Assign_Name {x pos' value pos} {Q : Flow → Shared → Prop} (h : Wp prog w A (eval value env) (fun v s₁ => Wp prog w A (storeName env x v) (fun _ => Q .next) s₁) s)
    (hs : swapsWith value (some (.Name x pos')) pos.line env = pure false := by rfl) : Wp prog w A (exec (.Assign [.Name x pos'] value pos) env) Q s := ⟨wpAny_Assign_Name (h.run.mono fun _ _ x => x.run) hs⟩
theorem W_Assign_Subscript {o i pos' value pos} {Q : Flow → Shared → Prop}
    (h : Wp prog w A (eval value env) (fun v s₁ => Wp prog w A (eval o env) (fun ov s₂ => Wp prog w A (eval i env) (fun iv s₃ => Wp prog w A (setItem ov iv v) (fun _ => Q .next) s₃) s₂) s₁) s)
    (hs : swapsWith value (some (.Subscript o i pos')) pos.line env = pure false := by rfl) : Wp prog w A (exec (.Assign [.Subscript o i pos'] value pos) env) Q s :=
  ⟨wpAny_Assign_Subscript (h.run.mono fun _ _ x => x.run.mono fun _ _ x => x.run.mono fun _ _ x => x.run) hs⟩
theorem W_Aug_Name {x pos' op value pos} {Q : Flow → Shared → Prop}
    (h : Wp prog w A (loadName env x) (fun old s₁ => Wp prog w A (eval value env) (fun v s₂ => Wp prog w A (inplaceOp op old v) (fun r s₃ => Wp prog w A (storeName env x r) (fun _ => Q .next) s₃) s₂) s₁) s) :
    Wp prog w A (exec (.AugAssign (.Name x pos') op value pos) env) Q s := ⟨wpAny_AugAssign_Name (h.run.mono fun _ _ x => x.run.mono fun _ _ x => x.run.mono fun _ _ x => x.run)⟩
theorem W_Aug_Attribute {o value : Expr} {attr : Str} {tpos pos : Pos} {op : Operator} {Q : Flow → Shared → Prop}
    (h : Wp prog w A (eval o env) (fun ov s₁ => Wp prog w A (getAttr ov attr true) (fun old s₂ => Wp prog w A (eval value env) (fun v s₃ => Wp prog w A (inplaceOp op old v) (fun new s₄ => Wp prog w A (setAttr ov attr new) (fun _ => Q .next) s₄) s₃) s₂) s₁) s) :
    Wp prog w A (exec (.AugAssign (.Attribute o attr tpos) op value pos) env) Q s := ⟨wpAny_AugAssign_AttributeAny (h.run.mono fun _ _ x => x.run.mono fun _ _ x => x.run.mono fun _ _ x => x.run.mono fun _ _ x => x.run)⟩
theorem W_If {test body orelse pos} {Q : Flow → Shared → Prop} (h : Wp prog w A (isTrue test env (eval test env)) (fun b s₂ => if b then Wp prog w A (execs body env) Q s₂ else Wp prog w A (execs orelse env) Q s₂) s) :
    Wp prog w A (exec (.If test body orelse pos) env) Q s := ⟨wpAny_If (h.run.mono fun b _ x => by cases b <;> exact x.run)⟩
theorem W_Return {e pos} {Q : Flow → Shared → Prop} (h : Wp prog w A (eval e env) (fun v => Q (.ret v)) s) : Wp prog w A (exec (.Return (some e) pos) env) Q s := ⟨wpAny_Return_some h.run⟩
theorem W_Return0 {pos} {Q : Flow → Shared → Prop} (h : Q (.ret .none) s) : Wp prog w A (exec (.Return none pos) env) Q s := ⟨wpAny_Return_none h⟩
theorem W_Expr {e pos} {Q : Flow → Shared → Prop} (h : Wp prog w A (eval e env) (fun _ => Q .next) s) (hi : interactive env = false := by rfl) (hs : swapsWith e none pos.line env = pure false := by rfl) :
    Wp prog w A (exec (.Expr e pos) env) Q s := ⟨wpAny_Expr_any h.run hi hs⟩
/-- tests -/
theorem W_tCompare {l op r pos whole} {Q : Bool → Shared → Prop}
    (h : Wp prog w A (eval l env) (fun a s₁ => Wp prog w A (eval r env) (fun b s₂ => Wp prog w A (compareOp op a b) (fun c s₃ => Wp prog w A (truthy c) Q s₃) s₂) s₁) s)
    (hm : behindInMarks op r = false := by with_unfolding_all rfl) : Wp prog w A (isTrue (.Compare l [op] [r] pos) env whole) Q s :=
  ⟨wpAny_isTrue_Compare1 (h.run.mono fun _ _ x => x.run.mono fun _ _ x => x.run.mono fun _ _ x => x.run) hm⟩
theorem W_tNot {x : Expr} {pos : Pos} {whole : Sem Value} {Q : Bool → Shared → Prop} (h : Wp prog w A (isTrue x env (eval x env)) (fun b s₁ => Q (!b) s₁) s) : Wp prog w A (isTrue (.UnaryOp .Not x pos) env whole) Q s := ⟨wpAny_isTrue_Not h.run⟩
theorem W_tPlain {e : Expr} {whole : Sem Value} {Q : Bool → Shared → Prop} (h : Wp prog w A whole (fun v s₁ => Wp prog w A (truthy v) Q s₁) s)
    (he : isTrue e env whole = (do let v ← whole; standAt e.pos; holding [v] (truthy v)) := by rfl) : Wp prog w A (isTrue e env whole) Q s := ⟨isTrue_plain (h.run.mono fun _ _ x => x.run) he⟩
/-- expressions -/
theorem W_Compare {l op r pos} {Q : Value → Shared → Prop} (h : Wp prog w A (eval l env) (fun a s₁ => Wp prog w A (eval r env) (fun b s₂ => Wp prog w A (compareOp op a b) Q s₂) s₁) s)
    (hm : behindInMarks op r = false := by with_unfolding_all rfl) : Wp prog w A (eval (.Compare l [op] [r] pos) env) Q s := ⟨wpAny_Compare1 (h.run.mono fun _ _ x => x.run.mono fun _ _ x => x.run) hm⟩
theorem W_BinOp {l op r pos} {Q : Value → Shared → Prop} (h : Wp prog w A (eval l env) (fun a s₁ => Wp prog w A (eval r env) (fun b s₂ => Wp prog w A (binaryOp op a b) Q s₂) s₁) s) :
    Wp prog w A (eval (.BinOp l op r pos) env) Q s := ⟨wpAny_BinOp (h.run.mono fun _ _ x => x.run.mono fun _ _ x => x.run)⟩
theorem W_IfExp {test body orelse : Expr} {pos : Pos} {Q : Value → Shared → Prop} (h : Wp prog w A (isTrue test env (eval test env)) (fun b s₁ => if b then Wp prog w A (eval body env) Q s₁ else Wp prog w A (eval orelse env) Q s₁) s) :
    Wp prog w A (eval (.IfExp test body orelse pos) env) Q s := ⟨wpAny_IfExp (h.run.mono fun b _ x => by cases b <;> exact x.run)⟩
theorem W_And {x y : Expr} {pos : Pos} {Q : Value → Shared → Prop} (h : Wp prog w A (eval x env) (fun v s₁ => Wp prog w A (truthy v) (fun t s₂ => if t then Wp prog w A (eval y env) Q s₂ else Q v s₂) s₁) s) :
    Wp prog w A (eval (.BoolOp .And [x, y] pos) env) Q s := ⟨wpAny_And2 (h.run.mono fun _ _ x => x.run.mono fun b _ x => by cases b <;> first | exact x.run | exact x)⟩
theorem W_Or {x y : Expr} {pos : Pos} {Q : Value → Shared → Prop} (h : Wp prog w A (eval x env) (fun v s₁ => Wp prog w A (truthy v) (fun t s₂ => if t then Q v s₂ else Wp prog w A (eval y env) Q s₂) s₁) s) :
    Wp prog w A (eval (.BoolOp .Or [x, y] pos) env) Q s := ⟨wpAny_Or2 (h.run.mono fun _ _ x => x.run.mono fun b _ x => by cases b <;> first | exact x.run | exact x)⟩
theorem W_Sub {value slice pos} {Q : Value → Shared → Prop} (h : Wp prog w A (eval value env) (fun o s₁ => Wp prog w A (eval slice env) (fun i s₂ => Wp prog w A (subscriptTail value slice o i) Q s₂) s₁) s) :
    Wp prog w A (eval (.Subscript value slice pos) env) Q s := ⟨PyProof.Rows.Subscript_ (h.run.mono fun _ _ x => x.run.mono fun _ _ x => x.run)⟩
theorem W_Attr {value : Expr} {attr : Str} {pos : Pos} {Q : Value → Shared → Prop} (h : Wp prog w A (eval value env) (fun o s₁ => Wp prog w A (getAttr o attr true) Q s₁) s)
    (he : eval (.Attribute value attr pos) env = (do
      let o ← eval value env
      standAt pos.atName
      let r ← holding [o] (getAttr o attr true)
      letTemporaryGo value o r
      pure r) := by with_unfolding_all rfl) : Wp prog w A (eval (.Attribute value attr pos) env) Q s := ⟨PyProof.Rows.Attribute_any_ (h.run.mono fun _ _ x => x.run) he⟩
theorem W_List {elts : List Expr} {pos : Pos} {Q : Value → Shared → Prop} (h : Wp prog w A (spliced (backTo pos (starEach elts env))) (fun vs s₁ => Wp prog w A (newList vs) Q s₁) s) : Wp prog w A (eval (.List elts pos) env) Q s := ⟨PyProof.Rows.List_ (h.run.mono fun _ _ x => x.run)⟩
theorem W_Tuple {elts : List Expr} {k : Nat} {pos : Pos} {Q : Value → Shared → Prop} (h : Wp prog w A (spliced (backTo pos (starEach elts env))) (fun vs s₁ => Wp prog w A (newTuple vs) Q s₁) s) : Wp prog w A (eval (.Tuple elts k pos) env) Q s := ⟨PyProof.Rows.Tuple_ (h.run.mono fun _ _ x => x.run)⟩
theorem W_sp0 {pos : Pos} {Q : List Value → Shared → Prop} (h : Q [] s) : Wp prog w A (spliced (backTo pos (starEach [] env))) Q s := ⟨PyProof.Rows.spliced_none h⟩
theorem W_sp1 {e : Expr} {rest : List Expr} {pos : Pos} {Q : List Value → Shared → Prop} (h : Wp prog w A (eval e env) (fun v s₁ => Wp prog w A (spliced (backTo pos (starEach rest env))) (fun vs s₂ => Q (v :: vs) s₂) s₁) s)
    (he : starEach (e :: rest) env = (false, eval e env) :: starEach rest env := by rfl) : Wp prog w A (spliced (backTo pos (starEach (e :: rest) env))) Q s := ⟨PyProof.Rows.spliced_more (h.run.mono fun _ _ x => x.run) he⟩
theorem W_CallN {id : Str} {p pos : Pos} {args : List Expr} {Q : Value → Shared → Prop} (h : Wp prog w A (eval (.Name id p) env) (fun f s₁ => Wp prog w A (callWith pos f [] (backTo pos (starEach args env)) []) Q s₁) s) :
    Wp prog w A (eval (.Call (.Name id p) args [] pos) env) Q s := ⟨wpAny_Call_NameR (h.run.mono fun _ _ x => x.run)⟩
/-- leaves -/
theorem W_int {i k pos} {Q : Value → Shared → Prop} (H : St B f N s) (h : ∀ t s', St B f N s' → Q (.int i t) s') : Wp prog w A (eval (.Constant (.int i) k pos) env) Q s := ⟨r_int H h⟩
theorem W_str {x : Str} {k pos} {Q : Value → Shared → Prop} (H : St B f N s) (h : ∀ t s', St B f N s' → Q (.str x t) s') : Wp prog w A (eval (.Constant (.str x) k pos) env) Q s := ⟨r_str H h⟩
theorem W_none {k pos} {Q : Value → Shared → Prop} (h : Q .none s) : Wp prog w A (eval (.Constant .none k pos) env) Q s := ⟨r_none h⟩
theorem W_bool {b k pos} {Q : Value → Shared → Prop} (h : Q (.bool b) s) : Wp prog w A (eval (.Constant (.bool b) k pos) env) Q s := ⟨r_bool h⟩
theorem W_local {x : Str} {pos : Pos} {l : List (Str × Value)} {v : Value} {Q : Value → Shared → Prop} (hl : env.kindOf x = some .local) (H : St B f N s) (hm : (env.locals, HasVars l) ∈ N) (hv : Mp l x = some v) (h : Q v s)
    (hk : env.scope.kind = .function := by rfl) (hd : (x == ("__debug__" : Str)) = false := by decide +kernel) : Wp prog w A (eval (.Name x pos) env) Q s := ⟨m_local hl H hm hv h hk hd⟩
theorem W_load {x : Str} {l : List (Str × Value)} {v : Value} {Q : Value → Shared → Prop} (hl : env.kindOf x = some .local) (H : St B f N s) (hm : (env.locals, HasVars l) ∈ N) (hv : Mp l x = some v) (h : Q v s)
    (hk : env.scope.kind = .function := by rfl) : Wp prog w A (loadName env x) Q s := ⟨m_loadlocal hl H hm hv h hk⟩
theorem W_cell {x : Str} {pos : Pos} {c : Addr} {v : Value} {Q : Value → Shared → Prop} (hl : env.kindOf x = some .cell) (hc : env.cells.lookup x = some c) (H : St B f N s) (hm : (c, IsCellO v) ∈ N) (h : Q v s)
    (hk : env.scope.kind = .function := by rfl) (hd : (x == ("__debug__" : Str)) = false := by decide +kernel) : Wp prog w A (eval (.Name x pos) env) Q s := ⟨m_cell hl hc H hm h hk hd⟩
theorem W_store {x : Str} {l : List (Str × Value)} {v : Value} {Q : Unit → Shared → Prop} (hl : env.kindOf x = some .local) (H : St B f ((env.locals, HasVars l) :: N) s)
    (h : ∀ s', St B f ((env.locals, HasVars ((x, v) :: l)) :: N) s' → Q () s') (hp : (env.scope.kind == .class || (env.scope.kind == .module && env.locals != env.globals)) = false := by rfl) : Wp prog w A (storeName env x v) Q s := ⟨r_store hl H h hp⟩
theorem W_glob {K : Frag} {x : Str} {pos : Pos} {v : Value} {Q : Value → Shared → Prop} (X : Base K B) (H : St B f N s) (hx : env.kindOf x = some .globalImplicit) (e : nsIn K mainGlobals x = some (some v)) (h : Q v s)
    (hg : env.globals = mainGlobals := by rfl) (hk : env.scope.kind = .function := by rfl) (hd : (x == ("__debug__" : Str)) = false := by decide +kernel) : Wp prog w A (eval (.Name x pos) env) Q s := ⟨r_glob X H hx e h hg hk hd⟩
theorem W_blt {K : Frag} {x : Str} {pos : Pos} {v : Value} {Q : Value → Shared → Prop} (X : Base K B) (H : St B f N s) (hx : env.kindOf x = some .globalImplicit) (e : nsIn K mainGlobals x = some none) (hv : bootBuiltins x = some v) (hn : x ≠ "__name__") (h : Q v s)
    (hg : env.globals = mainGlobals := by rfl) (hb : env.builtins = builtinsNs := by rfl) (hk : env.scope.kind = .function := by rfl) (hd : (x == ("__debug__" : Str)) = false := by decide +kernel) : Wp prog w A (eval (.Name x pos) env) Q s := ⟨r_blt X H hx e hv hn h hg hb hk hd⟩
theorem W_truth {b : Bool} {Q : Bool → Shared → Prop} (h : Q b s) : Wp prog w A (truthy (.bool b)) Q s := ⟨r_truth h⟩
/-- numbers, texts -/
theorem W_add {a b : Int} {t u : Tok} {Q : Value → Shared → Prop} (H : St B f N s) (h : ∀ t s', St B f N s' → Q (.int (a + b) t) s') : Wp prog w A (binaryOp .Add (.int a t) (.int b u)) Q s := ⟨r_add H h⟩
theorem W_sub {a b : Int} {t u : Tok} {Q : Value → Shared → Prop} (H : St B f N s) (h : ∀ t s', St B f N s' → Q (.int (a - b) t) s') : Wp prog w A (binaryOp .Sub (.int a t) (.int b u)) Q s := ⟨r_sub H h⟩
theorem W_mod {a b : Int} {t u : Tok} {Q : Value → Shared → Prop} (H : St B f N s) (hb : b ≠ 0) (h : ∀ t s', St B f N s' → Q (.int (a.fmod b) t) s') : Wp prog w A (binaryOp .Mod (.int a t) (.int b u)) Q s := ⟨r_mod H hb h⟩
theorem W_lt {a b : Int} {t u : Tok} {Q : Value → Shared → Prop} (h : Q (.bool (decide (a < b))) s) : Wp prog w A (compareOp .Lt (.int a t) (.int b u)) Q s := ⟨r_lt h⟩
theorem W_gt {a b : Int} {t u : Tok} {Q : Value → Shared → Prop} (h : Q (.bool (decide (b < a))) s) : Wp prog w A (compareOp .Gt (.int a t) (.int b u)) Q s := ⟨r_gt h⟩
theorem W_eqi {a b : Int} {t u : Tok} {Q : Value → Shared → Prop} (h : Q (.bool (a == b)) s) : Wp prog w A (compareOp .Eq (.int a t) (.int b u)) Q s := ⟨r_eqi h⟩
theorem W_eqs {x y : Str} {t u : Tok} {Q : Value → Shared → Prop} (h : Q (.bool (x == y)) s) : Wp prog w A (compareOp .Eq (.str x t) (.str y u)) Q s := ⟨r_eqs h⟩
theorem W_nes {x y : Str} {t u : Tok} {Q : Value → Shared → Prop} (h : Q (.bool (x != y)) s) : Wp prog w A (compareOp .NotEq (.str x t) (.str y u)) Q s := ⟨r_nes h⟩
theorem W_isnone {v : Value} {Q : Value → Shared → Prop} (h : Q (.bool (v == .none)) s) : Wp prog w A (compareOp .Is v .none) Q s := ⟨r_isnone h⟩
theorem W_notnone {v : Value} {Q : Value → Shared → Prop} (h : Q (.bool (v != .none)) s) : Wp prog w A (compareOp .IsNot v .none) Q s := ⟨r_notnone h⟩
/-- lists -/
theorem W_newlist {vs : List Value} {Q : Value → Shared → Prop} (H : St B f N s) (h : ∀ a s', St B f ((a, IsLst vs) :: N) s' → Q (.ref a) s') (hsz : vs.length ≤ sizeLine := by decide) : Wp prog w A (newList vs) Q s := ⟨r_newlist H h hsz⟩
theorem W_newtup {vs : List Value} {Q : Value → Shared → Prop} (H : St B f N s) (h : ∀ a s', St B f ((a, IsTupO vs) :: N) s' → Q (.ref a) s') (hsz : vs.length ≤ sizeLine := by decide) : Wp prog w A (newTuple vs) Q s := ⟨r_newtup H h hsz⟩
theorem W_item {value slice : Expr} {l : Addr} {items : Array Value} {k : Int} {t : Tok} {x : Value} {Q : Value → Shared → Prop} (hl : s.heap.IsList l items) (h0 : 0 ≤ k) (hfit : k < 2 ^ 63) (hx : items[k.toNat]? = some x) (h : Q x s)
    (hs : subscripted slice false (.ref l) (.int k t) = operate [.ref l, .int k t] (getItem (.ref l) (.int k t)) := by with_unfolding_all rfl) : Wp prog w A (subscriptTail value slice (.ref l) (.int k t)) Q s := ⟨r_getitem hl h0 hfit hx h hs⟩
theorem W_itemN {value slice : Expr} {l : Addr} {items : Array Value} {k : Int} {t : Tok} {x : Value} {Q : Value → Shared → Prop} (hl : s.heap.IsList l items) (h0 : k < 0) (h1 : -(items.size : Int) ≤ k) (hfit : -(2 ^ 63) ≤ k) (hx : items[(k + items.size).toNat]? = some x) (h : Q x s)
    (hs : subscripted slice false (.ref l) (.int k t) = operate [.ref l, .int k t] (getItem (.ref l) (.int k t)) := by with_unfolding_all rfl) : Wp prog w A (subscriptTail value slice (.ref l) (.int k t)) Q s := ⟨r_getitem_neg hl h0 h1 hfit hx h hs⟩
theorem W_get0 {value slice : Expr} {l : Addr} {x : Value} {r : List Value} {t : Tok} {Q : Value → Shared → Prop} (hl : s.heap.IsList l (x :: r).toArray) (h : Q x s)
    (hs : subscripted slice false (.ref l) (.int 0 t) = operate [.ref l, .int 0 t] (getItem (.ref l) (.int 0 t)) := by with_unfolding_all rfl) : Wp prog w A (subscriptTail value slice (.ref l) (.int 0 t)) Q s := ⟨r_get0 hl h hs⟩
theorem W_get1 {value slice : Expr} {l : Addr} {y0 x : Value} {r : List Value} {t : Tok} {Q : Value → Shared → Prop} (hl : s.heap.IsList l (y0 :: x :: r).toArray) (h : Q x s)
    (hs : subscripted slice false (.ref l) (.int 1 t) = operate [.ref l, .int 1 t] (getItem (.ref l) (.int 1 t)) := by with_unfolding_all rfl) : Wp prog w A (subscriptTail value slice (.ref l) (.int 1 t)) Q s := ⟨r_get1 hl h hs⟩
theorem W_get2 {value slice : Expr} {l : Addr} {y0 y1 x : Value} {r : List Value} {t : Tok} {Q : Value → Shared → Prop} (hl : s.heap.IsList l (y0 :: y1 :: x :: r).toArray) (h : Q x s)
    (hs : subscripted slice false (.ref l) (.int 2 t) = operate [.ref l, .int 2 t] (getItem (.ref l) (.int 2 t)) := by with_unfolding_all rfl) : Wp prog w A (subscriptTail value slice (.ref l) (.int 2 t)) Q s := ⟨r_get2 hl h hs⟩
theorem W_get3 {value slice : Expr} {l : Addr} {y0 y1 y2 x : Value} {r : List Value} {t : Tok} {Q : Value → Shared → Prop} (hl : s.heap.IsList l (y0 :: y1 :: y2 :: x :: r).toArray) (h : Q x s)
    (hs : subscripted slice false (.ref l) (.int 3 t) = operate [.ref l, .int 3 t] (getItem (.ref l) (.int 3 t)) := by with_unfolding_all rfl) : Wp prog w A (subscriptTail value slice (.ref l) (.int 3 t)) Q s := ⟨r_get3 hl h hs⟩
theorem W_setitem {l : Addr} {P : Pd} {items : Array Value} {k : Int} {t : Tok} {v : Value} {Q : Unit → Shared → Prop} (H : St B f ((l, P) :: N) s) (hw : ∀ o, P o → LstW items o) (h0 : 0 ≤ k) (hfit : k < 2 ^ 63) (hn : k < items.size)
    (h : ∀ s', St B f ((l, LstW (items.setIfInBounds k.toNat v)) :: N) s' → Q () s') : Wp prog w A (setItem (.ref l) (.int k t) v) Q s := ⟨r_setitem H hw h0 hfit hn h⟩
theorem W_set0 {l : Addr} {y : Value} {r : List Value} {t : Tok} {v : Value} {Q : Unit → Shared → Prop} (H : St B f ((l, LstW (y :: r).toArray) :: N) s)
    (h : ∀ s', St B f ((l, LstW (v :: r).toArray) :: N) s' → Q () s') : Wp prog w A (setItem (.ref l) (.int 0 t) v) Q s := ⟨r_setitem H (fun _ h => h) (by decide) (by decide) (by simp) (by simpa using h)⟩
theorem W_len {l : Addr} {items : Array Value} {Q : Value → Shared → Prop} (H : St B f N s) (hl : s.heap.IsList l items) (hfit : (items.size : Int) < 2 ^ 63) (h : ∀ t s', St B f N s' → Q (.int items.size t) s') :
    Wp prog w A (call (.builtin "len") [.ref l]) Q s := ⟨r_len H hl hfit h⟩
/-- calls -/
theorem W_blt1 {pos : Pos} {id : String} {e : Expr} {rest : List Expr} {Q : Value → Shared → Prop}
    (h : Wp prog w A (spliced (backTo pos (starEach (e :: rest) env))) (fun vs s₁ => Wp prog w A (call (.builtin id) vs) Q s₁) s)
    (he : starEach (e :: rest) env = (false, eval e env) :: starEach rest env := by rfl)
    (hplain : (backTo pos (starEach rest env)).any (·.1) = false := by rfl) : Wp prog w A (callWith pos (.builtin id) [] (backTo pos (starEach (e :: rest) env)) []) Q s := ⟨r_blt1 (h.run.mono fun _ _ x => x.run) he hplain⟩
theorem W_ty1 {pos : Pos} {T : String} {e : Expr} {rest : List Expr} {Q : Value → Shared → Prop}
    (h : Wp prog w A (spliced (backTo pos (starEach (e :: rest) env))) (fun vs s₁ => Wp prog w A (call (.type T) vs) Q s₁) s)
    (he : starEach (e :: rest) env = (false, eval e env) :: starEach rest env := by rfl)
    (hplain : (backTo pos (starEach rest env)).any (·.1) = false := by rfl) : Wp prog w A (callWith pos (.type T) [] (backTo pos (starEach (e :: rest) env)) []) Q s := ⟨r_ty1 (h.run.mono fun _ _ x => x.run) he hplain⟩
theorem W_fn {pos : Pos} {fa : Addr} {fd : FuncData} {e : Expr} {rest : List Expr} {Q : Value → Shared → Prop} (hf : FnAt B.heap fa fd)
    (h : Wp prog w A (spliced (backTo pos (starEach (e :: rest) env))) (fun vs s₁ => Lives B s₁ ∧ Wp prog w A (call (.ref fa) vs) Q s₁) s)
    (he : starEach (e :: rest) env = (false, eval e env) :: starEach rest env := by rfl) (hplain : (backTo pos (starEach rest env)).any (·.1) = false := by rfl) :
    Wp prog w A (callWith pos (.ref fa) [] (backTo pos (starEach (e :: rest) env)) []) Q s := ⟨r_callfn hf (h.run.mono fun _ _ x => ⟨x.1, x.2.run⟩) he hplain⟩
theorem W_fn0 {pos : Pos} {fa : Addr} {fd : FuncData} {Q : Value → Shared → Prop} (hf : FnAt B.heap fa fd) (H : St B f N s) (h : Wp prog w A (call (.ref fa) []) Q s) :
    Wp prog w A (callWith pos (.ref fa) [] (backTo pos (starEach [] env)) []) Q s := ⟨r_callfn0 hf H h.run⟩
theorem W_enter {fa : Addr} {fd : FuncData} {args : List Value} (l : List (Str × Value)) {body : List Stmt} {n : Nat} {Q : Value → Shared → Prop} (hA : Room A (n + 1)) (hf : FnAt B.heap fa fd) (hlim : B.heap.NoLimit) (H : St B f N s)
    (hbody : fd.body = .stmts body) (hbind : BindsTo s fd ⟨args, []⟩ l.reverse) (hp : plainFd fd l.reverse = true)
    (h : ∀ L s', St B f ((L, HasVars l) :: N) s' → Room (A.deeper (callEnv fd L fa)) n → Wp prog w (A.deeper (callEnv fd L fa)) (execs body (callEnv fd L fa)) (fun fl s'' => Q (match fl with | .ret v => v | _ => .none) s'') s') : Wp prog w A (call (.ref fa) args) Q s :=
  ⟨enter hA hf hlim H hbody hbind hp fun L s' x y => (h L s' x y).run⟩
end
/-- entries of a dict with text keys -/
inductive Ents (P : Params) : List DictEntry → List (Str × Value) → Prop
  | nil : Ents P [] []
  | cons {k : Str} {t : Tok} {v : Value} {es : List DictEntry} {kvs : List (Str × Value)} : Ents P es kvs → Ents P (⟨PyData.keyHash P k, .str k t, v⟩ :: es) ((k, v) :: kvs)
theorem Ents.length {P es kvs} (h : Ents P es kvs) : es.length = kvs.length := by induction h with | nil => rfl | cons _ ih => simp [ih]
theorem Ents.norefs {P es kvs} (h : Ents P es kvs) : es.any (·.refKey) = false := by
  induction h with
  | nil => rfl
  | cons _ ih => rw [List.any_cons, ih]; rfl
theorem Ents.find {P es kvs} (h : Ents P es kvs) (name : Str) : (es.find? (·.key.isStr name)).map (·.val) = kvs.lookup name := by
  induction h with
  | nil => rfl
  | @cons k t v es kvs _ ih =>
    by_cases q : k = name
    · subst q; simp [List.find?_cons, Value.isStr, List.lookup_cons]
    · have h1 : (k == name) = false := beq_eq_false_iff_ne.mpr q
      have h2 : (name == k) = false := beq_eq_false_iff_ne.mpr (Ne.symm q)
      rw [List.find?_cons_of_neg (by simp only [Value.isStr, h1]; decide), List.lookup_cons, h2]
      exact ih
theorem Ents.getL {P es kvs} (h : Ents P es kvs) (name : Str) : getL name es = some (kvs.lookup name) := by
  unfold PySem.W.getL
  have := h.find name
  cases e : es.find? (·.key.isStr name) with
  | none => rw [e] at this; simp [h.norefs, ← this]
  | some x => rw [e] at this; simp [← this]
noncomputable def putKV (name : Str) (v : Value) : List (Str × Value) → List (Str × Value)
  | [] => [(name, v)]
  | (k, u) :: r => if k == name then (k, v) :: r else (k, u) :: putKV name v r
theorem Ents.putL {P es kvs} (h : Ents P es kvs) (name : Str) (t : Tok) (v : Value) : Ents P (putL name (PyData.keyHash P name) (.str name t) v es) (putKV name v kvs) := by
  induction h with
  | nil => exact .cons .nil
  | @cons k t' u es kvs hh ih =>
    by_cases q : (k == name) = true
    · simp only [PySem.W.putL, putKV, Value.isStr, q, if_true]; exact .cons hh
    · simp only [PySem.W.putL, putKV, Value.isStr, q, if_false]; exact .cons ih
theorem putKV_length (name : Str) (v : Value) : ∀ kvs, (putKV name v kvs).length ≤ kvs.length + 1
  | [] => Nat.le_refl _
  | (k, u) :: r => by simp only [putKV]; split <;> simp; exact putKV_length name v r
theorem putKV_lt {name : Str} {v : Value} {kvs : List (Str × Value)} {n : Nat} (h : kvs.length < n) : (putKV name v kvs).length < n + 1 := by have := putKV_length name v kvs; lia
noncomputable def DictIs (P : Params) (kvs : List (Str × Value)) : Pd := fun o => ∃ es n, o = dictOf es n ∧ Ents P es kvs
noncomputable def IsInst (C dx : Addr) : Pd := fun o => o = instObj C dx
noncomputable def clsOK (K : Frag) (C : Addr) (name : Str) : Bool :=
  plainGet K C name && hasDictIn K C && (findIn K (.ref C) name == some none) && (findIn K (.ref C) "__setattr__" == some (some (.builtin "object.__setattr__"))) && plainOver K C && (takerIn K C name == some none)
noncomputable def newOK (K : Frag) (C fI : Addr) : Bool := makesIn K C && (findIn K (.ref C) "__init__" == some (some (.ref fI))) && (typeIn K (.ref fI) == some (.type "function")) && keepIn K (.ref C)
structure ClsOK (K : Frag) (C : Addr) (name : Str) : Prop where
  g : plainGet K C name = true
  d : hasDictIn K C = true
  f : findIn K (.ref C) name = some none
  s : findIn K (.ref C) "__setattr__" = some (some (.builtin "object.__setattr__"))
  o : plainOver K C = true
  t : takerIn K C name = some none
theorem ClsOK.of {K : Frag} {C : Addr} {name : Str} (h : clsOK K C name = true) : ClsOK K C name := by
  simp only [clsOK, Bool.and_eq_true, beq_iff_eq] at h
  obtain ⟨⟨⟨⟨⟨h1, h2⟩, h3⟩, h4⟩, h5⟩, h6⟩ := h
  exact ⟨h1, h2, h3, h4, h5, h6⟩
noncomputable def allBut (h : Heap) (L dx : Addr) : List (Addr × Obj) := (List.range h.objs.size).filterMap fun a => if a = L ∨ a = dx then none else (h.get? a).map fun o => (a, o)
theorem mem_allBut {h : Heap} {L dx : Addr} {p : Addr × Obj} : p ∈ allBut h L dx ↔ h.get? p.1 = some p.2 ∧ p.1 ≠ L ∧ p.1 ≠ dx := by
  obtain ⟨a, o⟩ := p
  simp only [allBut, List.mem_filterMap, List.mem_range]
  constructor
  · rintro ⟨b, hb, e⟩
    split at e
    · cases e
    · rename_i hn
      simp only [not_or] at hn
      cases hg : h.get? b with
      | none => rw [hg] at e; cases e
      | some o' => rw [hg] at e; simp only [Option.map_some, Option.some.injEq, Prod.mk.injEq] at e; obtain ⟨rfl, rfl⟩ := e; exact ⟨hg, hn.1, hn.2⟩
  · rintro ⟨h1, h2, h3⟩
    exact ⟨a, Heap.lt_size h1, by rw [if_neg (by simp only [not_or]; exact ⟨h2, h3⟩), h1]; rfl⟩
theorem Led.uniq {N : Led} {p q : Addr × Pd} (nd : (N.map (·.1)).Nodup) (hp : p ∈ N) (hq : q ∈ N) (e : p.1 = q.1) : p = q := by
  induction N with
  | nil => cases hp
  | cons a r ih =>
    rcases List.mem_cons.mp hp with e1 | m1 <;> rcases List.mem_cons.mp hq with e2 | m2
    · exact e1.trans e2.symm
    · subst e1; exact absurd (List.mem_map.mpr ⟨_, m2, e.symm⟩) (List.nodup_cons.mp nd).1
    · subst e2; exact absurd (List.mem_map.mpr ⟨_, m1, e⟩) (List.nodup_cons.mp nd).1
    · exact ih (List.nodup_cons.mp nd).2 m1 m2
noncomputable def noHeap : Heap := ⟨#[], {}⟩
theorem noHeap_get (a : Addr) : noHeap.get? a = none := by
  cases e : noHeap.get? a with
  | none => rfl
  | some o => exact absurd (Heap.lt_size e) (Nat.not_lt_zero _)
section
variable {prog : Program} {w : World} {P : Params} {B : Shared} {f : Heap} {N : Led} {s : Shared} {A : Around} {env : Env} {K : Frag}
theorem W_Assign_Attr {o attr pos' value pos} {Q : Flow → Shared → Prop} (h : Wp prog w A (eval value env) (fun v s₁ => Wp prog w A (eval o env) (fun ov s₂ => Wp prog w A (setAttr ov attr v) (fun _ => Q .next) s₂) s₁) s)
    (hs : swapsWith value (some (.Attribute o attr pos')) pos.line env = pure false := by rfl) : Wp prog w A (exec (.Assign [.Attribute o attr pos'] value pos) env) Q s :=
  ⟨plainObj_wpAny_Assign_Attribute (h.run.mono fun _ _ x => x.run.mono fun _ _ x => x.run) hs⟩
theorem inst_at {h : Heap} {x dx C : Addr} {kvs : List (Str × Value)} (hx : At h x (IsInst C dx)) (hd : At h dx (DictIs P kvs)) : ∃ es n, Ents P es kvs ∧ h.get? dx = some (dictOf es n) ∧ InstAt h x (instObj C dx) C (some (dictOf es n)) := by
  obtain ⟨o, h1, rfl⟩ := hx
  obtain ⟨od, h2, es, n, rfl, he⟩ := hd
  exact ⟨es, n, he, h2, ⟨h1, rfl, rfl, h2⟩⟩
theorem W_getattr {x dx C : Addr} {name : Str} {v : Value} {kvs : List (Str × Value)} {Q : Value → Shared → Prop} (X : Base K B) (H : St B f N s) (hx : At s.heap x (IsInst C dx)) (hc : clsOK K C name = true) (hd : At s.heap dx (DictIs w.params kvs)) (hv : Mp kvs name = some v) (hh : handedIn v = true)
    (h : ∀ s', St B f N s' → Q v s') : Wp prog w A (getAttr (.ref x) name true) Q s := by
  obtain ⟨es, n, he, h2, I⟩ := inst_at hx hd
  have c := ClsOK.of hc
  exact ⟨get_value (H.K X) I (plainGet_of c.g).1 (findObj_own c.d c.f rfl (by rw [lookIn_dict, he.getL]; exact congrArg some hv)) hh (h _ (H.tok _))⟩
theorem W_setattr {x dx C L : Addr} {name : Str} {v : Value} {l kvs : List (Str × Value)} {Q : Unit → Shared → Prop} (X : Base K B) (hx : At s.heap x (IsInst C dx)) (hc : clsOK K C name = true) (H : St B f ((dx, DictIs w.params kvs) :: N) s) (hL : (L, HasVars l) ∈ N) (hn : kvs.length < 900)
    (h : ∀ s', St B f ((dx, DictIs w.params (putKV name v kvs)) :: N) s' → Q () s') : Wp prog w A (setAttr (.ref x) name v) Q s := by
  obtain ⟨es, n, he, h2, I⟩ := inst_at hx (H.mem (.head _))
  have c := ClsOK.of hc
  obtain ⟨hfd, _⟩ := H.own _ (.head _)
  obtain ⟨_, oL, hoL, eL, nL, hdL, hkL, hvL⟩ := H.own _ (.tail _ hL)
  have hne : L ≠ dx := H.notin hL
  have F : Fr noHeap L s.heap (fun k => nsFind eL k) := ⟨⟨oL, eL, nL, hoL, hdL, hkL, fun _ => rfl⟩, fun b o e => (by rw [noHeap_get] at e; cases e), Nat.zero_le _⟩
  have NN : News noHeap L s.heap ([] ++ (dx, dictOf es n) :: allBut s.heap L dx) := by
    intro p hp
    rcases List.mem_cons.mp hp with rfl | hp
    · exact ⟨h2, hne.symm, noHeap_get _⟩
    · obtain ⟨a, b, c⟩ := mem_allBut.mp hp
      exact ⟨a, b, noHeap_get _⟩
  refine ⟨set_plain (H.K X) I c.s (osa_dict (s := { s with toks := s.toks + 1 }) F NN (H.K X) I rfl c.o c.t c.d (by rw [lookIn_dict, he.getL]; rfl) (fun _ hp => nomatch hp) (fun p hp => (mem_allBut.mp hp).2.2) (by rw [putName_dict]) rfl (by rw [(he.putL name (s.toks + 1) v).length]; have := putKV_length name v kvs; lia) ?_)⟩
  intro h' F' N'
  refine h _ ?_
  refine ⟨by obtain ⟨hh, t, rfl⟩ := H.sh; exact ⟨h', _, rfl⟩, H.base, fun b o e => ?_, fun q hq => ?_, by simpa using H.nd⟩
  · have hb : b ≠ dx := fun q => by subst q; rw [hfd] at e; cases e
    have hbL : b ≠ L := fun q => by subst q; rw [(H.own _ (.tail _ hL)).1] at e; cases e
    exact (N' (b, o) (.tail _ (mem_allBut.mpr ⟨H.sub _ _ e, hbL, hb⟩))).1
  · rcases List.mem_cons.mp hq with rfl | hq
    · exact ⟨hfd, _, (N' (dx, _) (.head _)).1, _, _, rfl, he.putL name _ v⟩
    · obtain ⟨h1, o, h3, h4⟩ := H.own q (.tail _ hq)
      refine ⟨h1, ?_⟩
      by_cases hqL : q.1 = L
      · have hq' : q = (L, HasVars l) := by
          exact Led.uniq (List.nodup_cons.mp H.nd).2 hq hL hqL
        subst hq'
        obtain ⟨o', e', ep', a1, a2, a3, a4⟩ := F'.ns
        exact ⟨o', a1, e', ep', a2, a3, fun k v e => (a4 k).trans (hvL k v e)⟩
      · exact ⟨o, (N' (q.1, o) (.tail _ (mem_allBut.mpr ⟨h3, hqL, H.notin hq⟩))).1, h4⟩
/-- a class called -/
theorem W_cls {pos : Pos} {C fI : Addr} {e : Expr} {rest : List Expr} {Q : Value → Shared → Prop} (X : Base K B) (hC : newOK K C fI = true)
    (h : Wp prog w A (spliced (backTo pos (starEach (e :: rest) env))) (fun vs s₁ => Lives B s₁ ∧ Wp prog w A (call (.ref C) vs) Q s₁) s)
    (he : starEach (e :: rest) env = (false, eval e env) :: starEach rest env := by rfl) (hplain : (backTo pos (starEach rest env)).any (·.1) = false := by rfl) :
    Wp prog w A (callWith pos (.ref C) [] (backTo pos (starEach (e :: rest) env)) []) Q s := by
  simp only [newOK, Bool.and_eq_true] at hC
  rw [he] at h ⊢
  refine ⟨callWith_of (P := fun h => K.In h) (by show ((false || (backTo pos (starEach rest env)).any (·.1)) || false) = false; rw [hplain]; rfl) (keeps_K hC.2) (evalArgs_plain (h.run.mono fun vs s₁ h₁ => ⟨?_, h₁.2.run⟩))⟩
  obtain ⟨f', N', H'⟩ := h₁.1
  exact H'.K X
theorem W_cls0 {pos : Pos} {C fI : Addr} {Q : Value → Shared → Prop} (X : Base K B) (hC : newOK K C fI = true) (H : St B f N s) (h : Wp prog w A (call (.ref C) []) Q s) :
    Wp prog w A (callWith pos (.ref C) [] (backTo pos (starEach [] env)) []) Q s := by
  simp only [newOK, Bool.and_eq_true] at hC
  exact ⟨callWith_of (P := fun h => K.In h) rfl (keeps_K hC.2) (evalArgs_nil3 ⟨H.K X, h.run⟩)⟩
theorem Room.mk' {A : Around} {n : Nat} {C : Addr} {args : List Value} (h : Room A (n + 2)) : Room (A.under (.builtin "type.__call__" ⟨.ref C :: args, []⟩)) (n + 1) := by
  have h1 : (Code.builtin "type.__call__" ⟨.ref C :: args, []⟩).weight = 1 := by kernel_rfl
  have h2 : (Code.builtin "type.__call__" ⟨.ref C :: args, []⟩).cUnits = 1 := by kernel_rfl
  have e1 : (A.under (.builtin "type.__call__" ⟨.ref C :: args, []⟩)).depth = A.depth + 1 := congrArg (A.depth + ·) h1
  have e2 : (A.under (.builtin "type.__call__" ⟨.ref C :: args, []⟩)).units = A.units + 1 := congrArg (A.units + ·) h2
  exact ⟨h.hh, by have := h.d; lia, by have := h.u; lia⟩
theorem W_new {C fI : Addr} {fd : FuncData} {args : List Value} (l : Addr → List (Str × Value)) {body : List Stmt} {n : Nat} {Q : Value → Shared → Prop} (X : Base K B) (hC : newOK K C fI = true) (hA : Room A (n + 2)) (hf : FnAt B.heap fI fd) (H : St B f N s)
    (hbody : fd.body = .stmts body) (hbind : ∀ x s', K.In s'.heap → BindsTo s' fd ⟨.ref x :: args, []⟩ (l x).reverse) (hp : ∀ x, plainFd fd (l x).reverse = true)
    (h : ∀ x dx L s' A', St B f ((L, HasVars (l x)) :: (x, IsInst C dx) :: (dx, DictIs w.params []) :: N) s' → Room A' n → Wp prog w A' (execs body (callEnv fd L fI)) (fun fl s'' => (match fl with | .ret v => v | _ => .none) = .none ∧ Q (.ref x) s'') s') :
    Wp prog w A (call (.ref C) args) Q s := by
  simp only [newOK, Bool.and_eq_true, beq_iff_eq] at hC
  obtain ⟨⟨⟨hm, hi⟩, ht⟩, hk⟩ := hC
  refine ⟨wpAny_call ?_⟩
  have H1 : St B f ((s.heap.objs.size + 1, IsInst C s.heap.objs.size) :: (s.heap.objs.size, DictIs w.params []) :: N) { s with heap := (s.heap.push emptyDict).push (instObj C s.heap.objs.size) } := by
    have h1 := H.push (o := emptyDict) (P := DictIs w.params []) (tk := s.toks) ⟨[], 0, rfl, .nil⟩
    have h2 := h1.push (o := instObj C s.heap.objs.size) (P := IsInst C s.heap.objs.size) (tk := s.toks) rfl
    simpa [Heap.size_push] using h2
  have XK : K.In s.heap := H.K X
  obtain ⟨hh, g, d, t, os⟩ := s
  refine make_core (makes_of XK hm) (looks_findIn XK hi) (fun self => bind_fn XK self ht) (.inl rfl) ?_
  have hf' := H1.fn hf
  have hp' := hp (hh.objs.size + 1)
  simp only [plainFd, Bool.and_eq_true, decide_eq_true_eq, List.all_eq_true, Bool.not_eq_true'] at hp'
  obtain ⟨⟨⟨⟨h1, h2⟩, h3⟩, h4⟩, h5⟩ := hp'
  have hA1 : Room (A.under (.builtin "type.__call__" ⟨.ref C :: args, []⟩)) (n + 1) := hA.mk'
  refine codeAny_call_def (fd := fd) (body := body) (binds := (l (hh.objs.size + 1)).reverse) (by have := hA1.d; lia) hf'.at_ rfl ((X.lim.keeps H1.base).keeps H1.sub) hf'.code hbody (hbind _ _ (H1.K X)) h1 (locs (List.all_eq_true.mpr fun x hx => decide_eq_true (h5 x hx))) (fun h₁ hns hk₁ => ?_) h2 h3 h4
  obtain ⟨o, es, ep, ho, hd, hks, hfi⟩ := hns
  refine wpAny_mono (h (hh.objs.size + 1) _ _ _ _ (H1.growNew hk₁ (get?_size _ (Nat.le_refl _)) ho ⟨es, ep, hd, hks, fun k v e => (hfi k).trans (by rw [List.reverse_reverse]; exact e)⟩) hA1.deeper).run (fun fl s'' x => ?_) fun _ _ x => x.elim
  exact x
end
theorem nk_Null (P : Params) : newOK (K0 P) 292 289 = true := by kernel_rfl
theorem ck_Null_kind (P : Params) : clsOK (K0 P) 292 (Str.ofString "kind") = true := by kernel_rfl
theorem ck_Null_attrs (P : Params) : clsOK (K0 P) 292 (Str.ofString "attrs") = true := by kernel_rfl
theorem nk_Vector (P : Params) : newOK (K0 P) 321 311 = true := by kernel_rfl
theorem ck_Vector_kind (P : Params) : clsOK (K0 P) 321 (Str.ofString "kind") = true := by kernel_rfl
theorem ck_Vector_items (P : Params) : clsOK (K0 P) 321 (Str.ofString "items") = true := by kernel_rfl
theorem ck_Vector_attrs (P : Params) : clsOK (K0 P) 321 (Str.ofString "attrs") = true := by kernel_rfl
theorem ck_Vector_shared (P : Params) : clsOK (K0 P) 321 (Str.ofString "shared") = true := by kernel_rfl
theorem ck_Vector_loose (P : Params) : clsOK (K0 P) 321 (Str.ofString "loose") = true := by kernel_rfl
theorem nk_Symbol (P : Params) : newOK (K0 P) 342 339 = true := by kernel_rfl
theorem ck_Symbol_kind (P : Params) : clsOK (K0 P) 342 (Str.ofString "kind") = true := by kernel_rfl
theorem ck_Symbol_name (P : Params) : clsOK (K0 P) 342 (Str.ofString "name") = true := by kernel_rfl
theorem ck_Symbol_attrs (P : Params) : clsOK (K0 P) 342 (Str.ofString "attrs") = true := by kernel_rfl
theorem nk_NameRow (P : Params) : newOK (K0 P) 534 531 = true := by kernel_rfl
theorem ck_NameRow_names (P : Params) : clsOK (K0 P) 534 (Str.ofString "names") = true := by kernel_rfl
theorem ck_NameRow_number (P : Params) : clsOK (K0 P) 534 (Str.ofString "number") = true := by kernel_rfl
theorem ck_NameRow_count (P : Params) : clsOK (K0 P) 534 (Str.ofString "count") = true := by kernel_rfl
theorem bv_len : bootBuiltins (Str.ofString "len") = some (.builtin "len") := by kernel_rfl
theorem bn_len : (Str.ofString "len") ≠ "__name__" := by decide +kernel
theorem bv_range : bootBuiltins (Str.ofString "range") = some (.type "range") := by kernel_rfl
theorem bn_range : (Str.ofString "range") ≠ "__name__" := by decide +kernel
theorem bv_list : bootBuiltins (Str.ofString "list") = some (.type "list") := by kernel_rfl
theorem bn_list : (Str.ofString "list") ≠ "__name__" := by decide +kernel
theorem bv_str : bootBuiltins (Str.ofString "str") = some (.type "str") := by kernel_rfl
theorem bn_str : (Str.ofString "str") ≠ "__name__" := by decide +kernel
theorem bv_max : bootBuiltins (Str.ofString "max") = some (.builtin "max") := by kernel_rfl
theorem bn_max : (Str.ofString "max") ≠ "__name__" := by decide +kernel
theorem bv_isinstance : bootBuiltins (Str.ofString "isinstance") = some (.builtin "isinstance") := by kernel_rfl
theorem bn_isinstance : (Str.ofString "isinstance") ≠ "__name__" := by decide +kernel
/-- iterators -/
structure Iter (prog : Program) (w : World) (A : Around) (B : Shared) (it : Addr) (n : Nat) (V : Nat → Value → Prop) (D : Nat → Pd) (f0 : Heap) : Prop where
  item : ∀ i f N s (Q : Option Value → Shared → Prop), i < n → Le f0 f → St B f ((it, D i) :: N) s → (∀ v s', V i v → St B f ((it, D (i + 1)) :: N) s' → Q (some v) s') → Wp prog w A (pyNext (.ref it)) Q s
  stop : ∀ f N s (Q : Option Value → Shared → Prop), Le f0 f → St B f ((it, D n) :: N) s → (∀ s', St B f N s' → Q none s') → Wp prog w A (pyNext (.ref it)) Q s
  self : ∀ i f N s (Q : Value → Shared → Prop), St B f ((it, D i) :: N) s → Q (.ref it) s → Wp prog w A (pyIter (.ref it)) Q s
  go : ∀ i f N s target v (Q : Unit → Shared → Prop), V i v → St B f ((it, D (i + 1)) :: N) s → Q () s → Wp prog w A (letOwnedTupleGo target (.ref it) v) Q s
noncomputable def ItList (l : Addr) (i : Nat) : Pd := fun o => o.cls = .type "list_iterator" ∧ o.data = .fields #[.ref l, .int i 0]
noncomputable def ItRange (n i : Nat) : Pd := fun o => o = { cls := .type "range_iterator", dict := none, data := .fields #[rawInt (0 + (i : Nat) * 1), rawInt ((n : Int) - (i : Nat)), rawInt 1], slots := #[] }
structure Lp (prog : Program) (w : World) (A : Around) (target : Expr) (it : Value) (body orelse : List Stmt) (env : Env) (Q : Flow → Shared → Prop) (s : Shared) : Prop where
  run : codeAny (model prog w) A (.forLoop target it body orelse env) (fun r s' => match r with | .ok f => Q f s' | .error e => False) s
section
variable {prog : Program} {w : World} {P : Params} {B : Shared} {f : Heap} {N : Led} {s : Shared} {A : Around} {env : Env} {K : Frag}
theorem go_plain {target : Expr} {v : Value} {Q : Unit → Shared → Prop} {l : Addr} {i : Nat} {it : Addr} (H : St B f ((it, ItList l i) :: N) s) (h : Q () s) : Wp prog w A (letOwnedTupleGo target (.ref it) v) Q s := by
  obtain ⟨o, ho, hc, hd⟩ := H.get
  have key : Wp prog w A (do
      let o ← load it
      match o.cls, o.data with
      | .type n, .fields vs =>
        if (["enumerate", "zip", "dict_itemiterator", "dict_reverseitemiterator", "odict_iterator", "itertools.zip_longest", "itertools.pairwise"].contains n && vs[0]? == some (rawInt (match v with | .ref a => a | _ => 0))) = true then do
          rule "for.unpacks-the-owned-tuple"
          updateField it 0 .none
        else pure ()
      | _, _ => pure ()) Q s := by
    refine ⟨wpAny_bind (wpAny_load ho ?_)⟩
    rw [hc, hd]
    dsimp only
    rw [show (["enumerate", "zip", "dict_itemiterator", "dict_reverseitemiterator", "odict_iterator", "itertools.zip_longest", "itertools.pairwise"].contains "list_iterator") = false from by decide, Bool.false_and, if_neg (by decide)]
    exact wpAny_pure h
  unfold letOwnedTupleGo
  cases target <;> first | exact ⟨wpAny_pure h⟩ | (cases v <;> first | exact ⟨wpAny_pure h⟩ | exact key)
theorem iter_list {it l : Addr} {items : Array Value} (hh : A.handled = none) (hl : At f l (LstW items)) : Iter prog w A B it items.size (fun i v => items[i]? = some v) (ItList l) f where
  item := fun i f' N' s' Q hi hf H h => by
    obtain ⟨o, ho, hc, hd⟩ := H.get
    refine ⟨wpAny_pyNext_list_item ⟨o, ho, hc, hd⟩ (H.at (hl.mono hf)).isList (x := items[i]) (by simp [hi]) fun h' hit' hs' => ?_⟩
    obtain ⟨o', ho', hc', hd'⟩ := hit'
    exact h _ _ (by simp [hi]) (H.upd hs' ho' ⟨hc', hd'⟩)
  stop := fun f' N' s' Q hf H h => by
    obtain ⟨o, ho, hc, hd⟩ := H.get
    exact ⟨wpAny_pyNext_list_end hh ⟨o, ho, hc, hd⟩ (H.at (hl.mono hf)).isList (by simp) fun h' he' => h _ (H.lose he')⟩
  self := fun i f' N' s' Q H h => by
    obtain ⟨o, ho, hc, hd⟩ := H.get
    exact ⟨wpAny_pyIter_listiter ⟨o, ho, hc, hd⟩ h⟩
  go := fun i f' N' s' target v Q hv H h => go_plain H h
theorem iter_range {it : Addr} {n : Nat} (hh : A.handled = none) : Iter prog w A B it n (fun i v => ∃ t, v = .int (i : Int) t) (ItRange n) f where
  item := fun i f' N' s' Q hi hf H h => by
    obtain ⟨o, ho, rfl⟩ := H.get
    have W := Walks.range (prog := prog) (w := w) hh it 0 1 n
    refine ⟨W.item i s' Q _ hi ho fun v h' tk hv st hk => ?_⟩
    obtain ⟨t, rfl⟩ := hv
    refine h _ _ ⟨t, by simp⟩ ?_
    refine ⟨by obtain ⟨hh, t, rfl⟩ := H.sh; exact ⟨h', tk, rfl⟩, H.base, fun b o e => hk b o (fun q => ?_) (H.sub _ _ e), fun q hq => ?_, by simpa using H.nd⟩
    · rw [List.mem_singleton.mp q, (H.own _ (.head _)).1] at e; cases e
    · rcases List.mem_cons.mp hq with rfl | hq
      · exact ⟨(H.own _ (.head _)).1, _, st, by simp [ItRange]⟩
      · obtain ⟨h1, o, h2, h3⟩ := H.own q (.tail _ hq)
        exact ⟨h1, o, hk _ _ (fun x => H.notin hq (List.mem_singleton.mp x)) h2, h3⟩
  stop := fun f' N' s' Q hf H h => by
    obtain ⟨o, ho, rfl⟩ := H.get
    have W := Walks.range (prog := prog) (w := w) hh it 0 1 n
    refine ⟨W.done s' Q _ ho fun h' tk hk => h _ ?_⟩
    exact H.lose fun b o hb e => hk b o (fun x => hb (List.mem_singleton.mp x)) e
  self := fun i f' N' s' Q H h => by
    obtain ⟨o, ho, rfl⟩ := H.get
    exact ⟨(Walks.range (prog := prog) (w := w) hh it 0 1 n).self i s' Q _ ho h⟩
  go := fun i f' N' s' target v Q hv H h => by
    obtain ⟨t, rfl⟩ := hv
    unfold letOwnedTupleGo
    cases target <;> exact ⟨wpAny_pure h⟩
theorem W_iter_list {l : Addr} {items : Array Value} {Q : Value → Shared → Prop} (H : St B f N s) (hh : A.handled = none) (hl : At f l (LstW items))
    (h : ∀ it s', Iter prog w A B it items.size (fun i v => items[i]? = some v) (ItList l) f → St B f ((it, ItList l 0) :: N) s' → Q (.ref it) s') : Wp prog w A (pyIter (.ref l)) Q s :=
  ⟨wpAny_pyIter_list (H.at hl).isList (h _ _ (iter_list hh hl) (H.push (tk := s.toks) ⟨rfl, rfl⟩))⟩
noncomputable def IsRng (n : Nat) : Pd := fun o => ∃ t u v, o = { cls := .type "range", dict := none, data := .fields #[.int 0 t, .int n u, .int 1 v], slots := #[] }
theorem W_range {n : Nat} {t : Tok} {Q : Value → Shared → Prop} (H : St B f N s) (h : ∀ r s', St B f ((r, IsRng n) :: N) s' → Q (.ref r) s') : Wp prog w A (call (.type "range") [.int n t]) Q s :=
  ⟨call_range_1 (h _ _ (H.push ⟨_, _, _, rfl⟩))⟩
theorem W_iter_range {r : Addr} {n : Nat} {Q : Value → Shared → Prop} (H : St B f ((r, IsRng n) :: N) s) (hh : A.handled = none) (hn : n < 2 ^ 60)
    (h : ∀ it s', Iter prog w A B it n (fun i v => ∃ t, v = .int (i : Int) t) (ItRange n) f → St B f ((it, ItRange n 0) :: N) s' → Q (.ref it) s') : Wp prog w A (pyIter (.ref r)) Q s := by
  obtain ⟨o, ho, t, u, v, rfl⟩ := H.get
  refine ⟨wpAny_pyIter_range ho (small_one (by decide) (by decide) (by lia) (by lia)) (h _ _ (iter_range hh) (H.drop.push (tk := s.toks) ?_))⟩
  have hsz : Builtin.Range.rangeSize 0 n 1 = n := by rw [rangeSize_one]; split <;> lia
  simp [ItRange, hsz]
theorem W_For {target iter body orelse pos} {Q : Flow → Shared → Prop} (h : Wp prog w A (eval iter env) (fun x s₁ => Wp prog w A (pyIter x) (fun it s₂ => Lp prog w A target it body orelse env Q s₂) s₁) s)
    (hs : ∀ x, foldedSetIterable iter env x = pure x := by intro _; rfl) : Wp prog w A (exec (.For target iter body orelse pos) env) Q s :=
  ⟨wpAny_For (h.run.mono fun _ _ x => x.run.mono fun _ _ x => codeAny_mono x.run fun r s' z => by cases r with | ok f => exact z | error e => exact z.elim) hs⟩
theorem W_loop {target : Expr} {it : Addr} {body : List Stmt} {n : Nat} {V : Nat → Value → Prop} {D : Nat → Pd} {f0 : Heap} {Q : Flow → Shared → Prop} (I : Iter prog w A B it n V D f0) (J : Nat → Heap → Led → Prop) (H : St B f ((it, D 0) :: N) s) (h0 : Le f0 f) (hJ : J 0 f N)
    (turn : ∀ i f' N' s' v, i < n → Le f f' → J i f' N' → V i v → St B f' ((it, D (i + 1)) :: N') s' → Wp prog w A (assign target env v) (fun _ s₂ => Wp prog w A (execs body env) (fun fl s₃ => match fl with
      | .next | .cont => ∃ f'' N'', Le f f'' ∧ J (i + 1) f'' N'' ∧ St B f'' ((it, D (i + 1)) :: N'') s₃
      | .brk => Q .next s₃
      | .ret v => Q (.ret v) s₃) s₂) s')
    (fin : ∀ f' N' s', Le f f' → J n f' N' → St B f' N' s' → Q .next s') : Lp prog w A target (.ref it) body [] env Q s := by
  refine ⟨codeAny_forLoop_any (fun m s' => ∃ i f' N', i + m = n ∧ Le f f' ∧ J i f' N' ∧ St B f' ((it, D i) :: N') s') ?_ n ⟨0, f, N, by lia, Le.refl f, hJ, H⟩⟩
  rintro m s' ⟨i, f', N', him, hle, hJ', H'⟩
  by_cases hi : i < n
  · refine wpAny_mono (I.item i f' N' s' (fun r s₁ => match r with
      | none => False
      | some v => wpAny (model prog w) A (letOwnedTupleGo target (.ref it) v) (fun _ s₁' => wpAny (model prog w) A (assign target env v) (fun _ s₂ => wpAny (model prog w) A (execs body env) (fun fl s₃ => match fl with
          | .next | .cont => ∃ k, k < m ∧ ∃ i f' N', i + k = n ∧ Le f f' ∧ J i f' N' ∧ St B f' ((it, D i) :: N') s₃
          | .brk => Q .next s₃
          | .ret v => Q (.ret v) s₃) FF s₂) FF s₁') FF s₁) hi (h0.trans hle) H' (fun v s₁ hv H₁ => ?_)).run (fun r s₁ z => ?_) fun _ _ x => x.elim
    · refine (I.go i f' N' s₁ target v _ hv H₁ ?_).run
      refine (turn i f' N' s₁ v hi hle hJ' hv H₁).run.mono fun _ s₂ z => z.run.mono fun fl s₃ z => ?_
      cases fl with
      | next => obtain ⟨f'', N'', h1, h2, h3⟩ := z; exact ⟨m - 1, by lia, i + 1, f'', N'', by lia, h1, h2, h3⟩
      | cont => obtain ⟨f'', N'', h1, h2, h3⟩ := z; exact ⟨m - 1, by lia, i + 1, f'', N'', by lia, h1, h2, h3⟩
      | brk => exact z
      | ret v => exact z
    · cases r with
      | none => exact z.elim
      | some v =>
        refine wpAny_mono z (fun _ s₁' z => wpAny_mono z (fun _ s₂ z => wpAny_mono z (fun fl s₃ z => ?_) fun _ _ x => x.elim) fun _ _ x => x.elim) fun _ _ x => x.elim
        cases fl <;> exact z
  · have hin : i = n := by lia
    subst hin
    refine wpAny_mono (I.stop f' N' s' (fun r s₁ => match r with | none => Q .next s₁ | some _ => False) (h0.trans hle) H' (fun s₁ H₁ => fin f' N' s₁ hle hJ' H₁)).run (fun r s₁ z => ?_) fun _ _ x => x.elim
    cases r with
    | none => exact wpAny_execs_nil z
    | some v => exact z.elim
theorem W_asName {x : Str} {pos : Pos} {v : Value} {Q : Unit → Shared → Prop} (h : Wp prog w A (storeName env x v) Q s) : Wp prog w A (assign (.Name x pos) env v) Q s := ⟨wpAny_assign_Name h.run⟩
/-- methods -/
theorem W_Meth {o : Expr} {name : Str} {apos pos : Pos} {args : List Expr} {pl : Sem Bool} {Q : Value → Shared → Prop}
    (h : Wp prog w A (eval o env) (fun ov s₁ => Wp prog w A (getMethod ov name pl) (fun fx s₂ => Wp prog w A (callWith pos fx.1 fx.2 (backTo pos (starEach args env)) []) Q s₂) s₁) s)
    (he : eval (.Call (.Attribute o name apos) args [] pos) env = (do
      let ov ← eval o env
      standAt apos.atName
      let (f, first) ← holding [ov] (getMethod ov name pl)
      callWith pos f first (backTo pos (starEach args env)) []) := by rfl) : Wp prog w A (eval (.Call (.Attribute o name apos) args [] pos) env) Q s :=
  ⟨MethodCall_ (h.run.mono fun _ _ x => x.run.mono fun _ _ x => x.run) he⟩
theorem W_bm1 {pos : Pos} {id : String} {first : List Value} {e : Expr} {rest : List Expr} {Q : Value → Shared → Prop}
    (h : Wp prog w A (spliced (backTo pos (starEach (e :: rest) env))) (fun vs s₁ => Wp prog w A (call (.builtin id) (first ++ vs)) Q s₁) s)
    (he : starEach (e :: rest) env = (false, eval e env) :: starEach rest env := by rfl)
    (hplain : (backTo pos (starEach rest env)).any (·.1) = false := by rfl) : Wp prog w A (callWith pos (.builtin id) first (backTo pos (starEach (e :: rest) env)) []) Q s := ⟨callWith_method1 (h.run.mono fun _ _ x => x.run) he hplain⟩
theorem gm_list {l : Addr} {vs : List Value} {name : Str} {id : String} {pl : Sem Bool} {Q : Value × List Value → Shared → Prop} (slot : Slot "list" name id) (hty : typeOf (.builtin id) = pure (.type "method_descriptor")) (hl : At s.heap l (IsLst vs)) (h : Q (.builtin id, [.ref l]) s) :
    Wp prog w A (getMethod (.ref l) name pl) Q s := by
  refine ⟨getMethod_list_of slot hty hl.lst ?_ h⟩
  obtain ⟨o, ho, n, rfl⟩ := hl
  exact ⟨_, ho, rfl⟩
theorem W_gm_append {l : Addr} {vs : List Value} {pl : Sem Bool} {Q : Value × List Value → Shared → Prop} (hl : At s.heap l (IsLst vs)) (h : Q (.builtin "list.append", [.ref l]) s) : Wp prog w A (getMethod (.ref l) "append" pl) Q s := gm_list PySem.F.slot_list_append (by rfl) hl h
theorem W_gm_extend {l : Addr} {vs : List Value} {pl : Sem Bool} {Q : Value × List Value → Shared → Prop} (hl : At s.heap l (IsLst vs)) (h : Q (.builtin "list.extend", [.ref l]) s) : Wp prog w A (getMethod (.ref l) "extend" pl) Q s := gm_list PySem.F.slot_list_extend (by rfl) hl h
theorem W_gm_index {l : Addr} {vs : List Value} {pl : Sem Bool} {Q : Value × List Value → Shared → Prop} (hl : At s.heap l (IsLst vs)) (h : Q (.builtin "list.index", [.ref l]) s) : Wp prog w A (getMethod (.ref l) "index" pl) Q s := gm_list PySem.F.slot_list_index (by rfl) hl h
theorem W_append {l : Addr} {vs : List Value} {x : Value} {Q : Value → Shared → Prop} (H : St B f ((l, IsLst vs) :: N) s) (hn : vs.length < 100000) (h : ∀ s', St B f ((l, IsLst (vs ++ [x])) :: N) s' → Q .none s') : Wp prog w A (call (.builtin "list.append") [.ref l, x]) Q s := by
  obtain ⟨o, ho, n, rfl⟩ := H.get
  refine ⟨append_at ho (fun h' hs ho' => h _ (H.upd hs ho' ⟨n + 1, ?_⟩)) (by rw [List.size_toArray, sizeLine_eq]; lia)⟩
  simp [listO]
theorem W_extend {l b : Addr} {vs us : List Value} {Q : Value → Shared → Prop} (H : St B f ((l, IsLst vs) :: N) s) (hb : At s.heap b (IsLst us)) (hn : vs.length + us.length < 100000) (h : ∀ s', St B f ((l, IsLst (vs ++ us)) :: N) s' → Q .none s') : Wp prog w A (call (.builtin "list.extend") [.ref l, .ref b]) Q s := by
  obtain ⟨o, ho, n, rfl⟩ := H.get
  obtain ⟨o2, ho2, n2, rfl⟩ := hb
  have hsz' : vs.toArray.size + us.toArray.size ≤ sizeLine := by simp only [List.size_toArray, sizeLine_eq]; lia
  refine ⟨call_meets PySem.F.slot_list_extend ⟨_, ho, rfl⟩ PySem.F.entry_list_extend (PySem.F.args_list_extend_2 _ _) (AutoSeq1.list_extend_list_list_0 l vs.toArray n b us.toArray n2 (extend_door hsz') (Nat.le_trans (Nat.le_add_right _ _) hsz')) ⟨ho, ho2, ?_⟩⟩
  have ho' : (s.heap.update l (Obj.mapSeq fun x => x ++ us.toArray)).get? l = some (listO (vs.toArray ++ us.toArray) (if (vs.toArray ++ us.toArray).size == vs.toArray.size then n else n + 1)) := by rw [Heap.get?_update_self _ ho (by rw [listO, mapSeq_app]; rfl), listO, mapSeq_app]; rfl
  exact h _ (H.upd (Heap.SameBut.update ..) ho' ⟨_, by rw [List.append_toArray]⟩)
end
theorem Wq.any {prog : Program} {w : World} {α : Type} {A : Around} {t : Sem α} {Q : α → Shared → Prop} {s : Shared} {E : Value → Shared → Prop} (h : Wq prog w A t Q s) : wpAny (model prog w) A t Q E s := wpAny_mono h (fun _ _ x => x) fun _ _ x => x.elim
theorem Wq.to {prog : Program} {w : World} {α : Type} {A : Around} {t : Sem α} {Q Q' : α → Shared → Prop} {s : Shared} {E : Value → Shared → Prop} (h : Wq prog w A t Q s) (hq : ∀ v s', Q v s' → Q' v s') : wpAny (model prog w) A t Q' E s := wpAny_mono h hq fun _ _ x => x.elim
noncomputable def Tests (prog : Program) (w : World) (A : Around) (ifs : List Expr) (env : Env) (Q : Bool → Shared → Prop) (s : Shared) : Prop := match ifs with
  | [] => Q true s
  | [c] => Wp prog w A (isTrue c env (eval c env)) Q s
  | _ => False
noncomputable def compOK (scope : Scope) : Bool := scope.names.all (fun x => decide (x.2 ≠ .cell)) && decide (scope.kind = .function) && scope.names.all (fun x => decide (x.2 = .local → scope.names.lookup x.1 = some .local))
section
variable {prog : Program} {w : World} {P : Params} {B : Shared} {f : Heap} {N : Led} {s : Shared} {A : Around} {env : Env} {K : Frag}
theorem T_nil {X Y : Shared → Prop} (h : X s) : Tests prog w A [] env (fun ok s₃ => if ok = true then X s₃ else Y s₃) s := by
  show (if true = true then X s else Y s); rw [if_pos rfl]; exact h
theorem T_one {c : Expr} {Q : Bool → Shared → Prop} (h : Wp prog w A (isTrue c env (eval c env)) Q s) : Tests prog w A [c] env Q s := h
theorem comp_loop {elt target iter : Expr} {ifs : List Expr} {scope : Scope} {pos : Pos} {it acc : Value} {R : Result → Shared → Prop} (I : Nat → Shared → Prop)
    (turn : ∀ n s, I n s → Wq prog w A (pyNext it) (fun r s₁ => match r with
      | none => R (.ok .next) s₁
      | some v => Wq prog w A (letOwnedTupleGo target it v) (fun _ s₁' => Wq prog w A (assign target env v) (fun _ s₂ => Tests prog w A ifs env (fun ok s₃ => if ok = true then
            Wq prog w A (eval elt env) (fun x s₄ => Wq prog w A (call (.builtin "list.append") [acc, x]) (fun _ s₅ => ∃ m, m < n ∧ I m s₅) s₄) s₃ else ∃ m, m < n ∧ I m s₃) s₂) s₁') s₁) s)
    (n : Nat) (h : I n s) : codeAny (model prog w) A (.compLoop (.ListComp elt [⟨target, iter, ifs, 0⟩] scope pos) 0 it acc env) R s := by
  refine codeAny_loop rfl I (fun n s hI => ?_) n h
  show wpAny _ A ((compTurn (.ListComp elt [⟨target, iter, ifs, 0⟩] scope pos) 0 it acc env).onRaise (fun x => do noteFrame x env; theTreesLotGoes x)) _ _ s
  refine wpAny_noted ?_
  rw [compTurn_list]
  refine wpAny_bind (wpAny_standAt (wpAny_bind (Wq.to (turn n s hI) (fun r s₁ h₁ => ?_))))
  cases r with
  | none => exact wpAny_pure h₁
  | some v =>
    refine wpAny_bind (Wq.to h₁ (fun _ s₁' h₁' => wpAny_bind (Wq.to h₁' (fun _ s₂ h₂ => ?_))))
    refine wpAny_bind (wpAny_mono (E := FF) (Q := fun ok s₃ => if ok = true then
            Wq prog w A (eval elt env) (fun x s₄ => Wq prog w A (call (.builtin "list.append") [acc, x]) (fun _ s₅ => ∃ m, m < n ∧ I m s₅) s₄) s₃ else ∃ m, m < n ∧ I m s₃) ?_ (fun ok s₃ h₃ => ?_) fun _ _ x => x.elim)
    · rcases ifs with _ | ⟨c, _ | ⟨d, r⟩⟩
      · exact wpAny_tests_nil h₂
      · exact wpAny_tests_one (Wp.run h₂)
      · exact (show False from h₂).elim
    · cases ok with
      | false => exact wpAny_pure ⟨rfl, h₃⟩
      | true => exact wpAny_bind (wpAny_bind (Wq.to h₃ (fun x s₄ h₄ => wpAny_bind (Wq.to h₄ (fun _ s₅ h₅ => wpAny_pure (wpAny_pure ⟨rfl, h₅⟩))))))
theorem comp_core {elt target iter : Expr} {ifs : List Expr} {scope : Scope} {cl : List (Str × Addr)} {pos : Pos} {it : Addr} {n : Nat} {V : Nat → Value → Prop} {D : Nat → Pd} {f0 : Heap} {RR : Value → Addr → Result → Shared → Prop} (hsc : compOK scope = true)
    (I : Iter prog w A B it n V D f0) (J : Nat → Heap → Led → List Value → Prop) (H : St B f ((it, D 0) :: N) s) (h0 : Le f0 f) (hJ : J 0 f N [])
    (turn : ∀ C acc i f' N' vs l s' v, i < n → Le f f' → J i f' N' vs → V i v → St B f' ((C, HasVars l) :: (acc, IsLst vs) :: (it, D (i + 1)) :: N') s' →
      Wp prog w A (assign target (compEnvC scope cl C env) v) (fun _ s₂ => Tests prog w A ifs (compEnvC scope cl C env) (fun ok s₃ => if ok = true then
        Wp prog w A (eval elt (compEnvC scope cl C env)) (fun y s₄ => ∃ f'' N'' l', Le f f'' ∧ J (i + 1) f'' N'' (vs ++ [y]) ∧ vs.length < 100000 ∧ St B f'' ((C, HasVars l') :: (acc, IsLst vs) :: (it, D (i + 1)) :: N'') s₄) s₃
        else ∃ f'' N'' l', Le f f'' ∧ J (i + 1) f'' N'' vs ∧ St B f'' ((C, HasVars l') :: (acc, IsLst vs) :: (it, D (i + 1)) :: N'') s₃) s₂) s')
    (fin : ∀ C acc f' N' vs l s', Le f f' → J n f' N' vs → St B f' ((C, HasVars l) :: (acc, IsLst vs) :: N') s' → RR (.ref acc) C (.ok .next) s') :
    Wq prog w A (newList []) (fun acc s₃ => Wq prog w A (newFunctionEnv scope env.globals cl [] env.qual none .none (some env)) (fun cenv s₄ =>
      codeAny (model prog w) A (.compStart (.ListComp elt [⟨target, iter, ifs, 0⟩] scope pos) 0 (.ref it) acc { cenv with scope := relabel scope env }) (RR acc cenv.locals) s₄) s₃) s := by
  simp only [compOK, Bool.and_eq_true, List.all_eq_true, decide_eq_true_eq] at hsc
  obtain ⟨⟨hcell, hkind⟩, -⟩ := hsc
  refine r_newlist H (fun acc s₃ H₃ => ?_) (Nat.zero_le _)
  refine wpAny_newFunctionEnv hcell (by intro y hy; simp at hy) (fun h₁ hns₁ hsb₁ => ?_) hkind
  try dsimp only at hns₁ hsb₁ ⊢
  have hk₁ : Le s₃.heap h₁ := fun b o e => hsb₁.extBut b o (Nat.ne_of_lt (Heap.lt_size e)) (Heap.get?_push_of_some _ e)
  obtain ⟨oC, eC, pC, hoC, hdC, hkC, hfC⟩ := hns₁
  have H₄ : St B f ((s₃.heap.objs.size, HasVars []) :: (acc, IsLst []) :: (it, D 0) :: N) { s₃ with heap := h₁, toks := s₃.toks + ([] : List (Str × Value)).length } :=
    H₃.growNew hk₁ (get?_size _ (Nat.le_refl _)) hoC ⟨eC, pC, hdC, hkC, fun k v e => by cases e⟩
  generalize hC : s₃.heap.objs.size = C at *
  have loop : ∀ s₅ : Shared, s₅ = { s₃ with heap := h₁, toks := s₃.toks + ([] : List (Str × Value)).length } →
      codeAny (model prog w) A (.compLoop (.ListComp elt [⟨target, iter, ifs, 0⟩] scope pos) 0 (.ref it) (.ref acc) (compEnvC scope cl C env)) (RR (.ref acc) C) s₅ := by
    rintro s₅ rfl
    refine comp_loop (fun m s' => ∃ i f' N' vs l, i + m = n ∧ Le f f' ∧ J i f' N' vs ∧ St B f' ((C, HasVars l) :: (acc, IsLst vs) :: (it, D i) :: N') s') ?_ n ⟨0, f, N, [], [], by lia, Le.refl f, hJ, H₄⟩
    rintro m s' ⟨i, f', N', vs, l, him, hle, hJ', H'⟩
    have Hp := H'.p2
    by_cases hi : i < n
    · refine (I.item i f' _ s' _ hi (h0.trans hle) Hp (fun v s₁ hv H₁ => ?_)).run
      dsimp only
      refine (I.go i f' _ s₁ target v _ hv H₁ ?_).run
      have H₁' : St B f' ((C, HasVars l) :: (acc, IsLst vs) :: (it, D (i + 1)) :: N') s₁ := H₁.p2.p2
      refine (turn C acc i f' N' vs l s₁ v hi hle hJ' hv H₁').run.mono fun _ s₂ h₂ => ?_
      have key : ∀ ok s₃, (if ok = true then
        Wp prog w A (eval elt (compEnvC scope cl C env)) (fun y s₄ => ∃ f'' N'' l', Le f f'' ∧ J (i + 1) f'' N'' (vs ++ [y]) ∧ vs.length < 100000 ∧ St B f'' ((C, HasVars l') :: (acc, IsLst vs) :: (it, D (i + 1)) :: N'') s₄) s₃
        else ∃ f'' N'' l', Le f f'' ∧ J (i + 1) f'' N'' vs ∧ St B f'' ((C, HasVars l') :: (acc, IsLst vs) :: (it, D (i + 1)) :: N'') s₃) →
          if ok = true then Wq prog w A (eval elt (compEnvC scope cl C env)) (fun x s₄ => Wq prog w A (call (.builtin "list.append") [.ref acc, x]) (fun _ s₅ => ∃ k, k < m ∧ ∃ i f' N' vs l, i + k = n ∧ Le f f' ∧ J i f' N' vs ∧ St B f' ((C, HasVars l) :: (acc, IsLst vs) :: (it, D i) :: N') s₅) s₄) s₃
            else ∃ k, k < m ∧ ∃ i f' N' vs l, i + k = n ∧ Le f f' ∧ J i f' N' vs ∧ St B f' ((C, HasVars l) :: (acc, IsLst vs) :: (it, D i) :: N') s₃ := by
        intro ok s₃ h₃
        cases ok with
        | true =>
          rw [if_pos rfl] at h₃ ⊢
          refine h₃.run.mono fun y s₄ h₄ => ?_
          obtain ⟨f'', N'', l', g1, g2, g3, g4⟩ := h₄
          exact (W_append g4.p1 g3 fun s₅ H₅ => ⟨m - 1, by lia, i + 1, f'', N'', _, l', by lia, g1, g2, H₅.p1⟩).run
        | false =>
          rw [if_neg (by decide)] at h₃ ⊢
          obtain ⟨f'', N'', l', g1, g2, g4⟩ := h₃
          exact ⟨m - 1, by lia, i + 1, f'', N'', _, l', by lia, g1, g2, g4⟩
      rcases ifs with _ | ⟨c, _ | ⟨d, r⟩⟩
      · exact key true s₂ h₂
      · exact Wp.mono h₂ key
      · exact (show False from h₂).elim
    · have hin : i = n := by lia
      subst hin
      refine (I.stop f' _ s' _ (h0.trans hle) Hp (fun s₁ H₁ => ?_)).run
      exact fin C acc f' N' vs l s₁ hle hJ' H₁
  refine codeAny_compStart_list (loop _ rfl) (Wq.any (I.self 0 f _ _ _ H₄.p2 (loop _ rfl)).run)
structure Cp (prog : Program) (w : World) (A : Around) (elt target iter : Expr) (ifs : List Expr) (scope : Scope) (cl : List (Str × Addr)) (pos : Pos) (env : Env) (use : Option (Value → Sem Unit)) (it : Value) (Q : Value → Shared → Prop) (s : Shared) : Prop where
  run : Wq prog w A (newList []) (fun acc s₃ => Wq prog w A (newFunctionEnv scope env.globals cl [] env.qual none .none (some env)) (fun cenv s₄ =>
      codeAny (model prog w) A (.compStart (.ListComp elt [⟨target, iter, ifs, 0⟩] scope pos) 0 it acc { cenv with scope := relabel scope env }) (compPost (model prog w) A FF use Q acc cenv.locals) s₄) s₃) s
theorem W_ListComp {elt target iter : Expr} {ifs : List Expr} {scope : Scope} {cl : List (Str × Addr)} {pos : Pos} {Q : Value → Shared → Prop} (hclos : closureFor scope env = pure cl) (hsc : compOK scope = true)
    (h : Wp prog w A (eval iter env) (fun x s₁ => Wp prog w A (pyIter x) (fun it s₂ => Cp prog w A elt target iter ifs scope cl pos env none it Q s₂) s₁) s)
    (hs : ∀ x, foldedSetIterable iter env x = pure x := by intro _; rfl) : Wp prog w A (eval (.ListComp elt [⟨target, iter, ifs, 0⟩] scope pos) env) Q s := by
  have hsc' := hsc
  simp only [compOK, Bool.and_eq_true, List.all_eq_true, decide_eq_true_eq] at hsc'
  refine ⟨?_⟩
  show wpAny _ _ _ _ _ _
  rw [eval_ListComp]
  exact wpAny_comprehension_free (use := none) rfl hs hclos hsc'.1.2 hsc'.2 (h.run.mono fun _ _ x => x.run.mono fun _ _ x => x.run)
theorem W_Assign_ListComp {elt target iter : Expr} {ifs : List Expr} {scope : Scope} {cl : List (Str × Addr)} {y : Str} {py pos spos : Pos} {Q : Flow → Shared → Prop}
    (hclos : closureFor scope env = pure cl) (hsc : compOK scope = true)
    (h : Wp prog w A (eval iter env) (fun x s₁ => Wp prog w A (pyIter x) (fun it s₂ => Cp prog w A elt target iter ifs scope cl pos env (some (assign (.Name y py) env)) it (fun _ s' => Q .next s') s₂) s₁) s)
    (hsw : swapsWith (.ListComp elt [⟨target, iter, ifs, 0⟩] scope pos) (some (.Name y py)) spos.line env = pure true := by rfl)
    (hs : ∀ x, foldedSetIterable iter env x = pure x := by intro _; rfl) : Wp prog w A (exec (.Assign [.Name y py] (.ListComp elt [⟨target, iter, ifs, 0⟩] scope pos) spos) env) Q s := by
  have hsc' := hsc
  simp only [compOK, Bool.and_eq_true, List.all_eq_true, decide_eq_true_eq] at hsc'
  refine ⟨?_⟩
  show wpAny _ _ _ _ _ _
  rw [exec_Assign_Name_used _ _ _ _ hsw]
  refine wpAny_bind (wpAny_standAt (wpAny_bind ?_))
  show wpAny _ A (do let _ ← comprehension (.ListComp elt [⟨target, iter, ifs, 0⟩] scope pos) scope env _ (newList []) false (eval iter env) (some (assign (.Name y py) env))) _ _ s
  exact wpAny_bind (wpAny_mono (wpAny_comprehension_free (use := some (assign (.Name y py) env)) (Q := fun _ s' => Q .next s') rfl hs hclos hsc'.1.2 hsc'.2 (h.run.mono fun _ _ x => x.run.mono fun _ _ x => x.run)) (fun _ s' hq => wpAny_pure (wpAny_pure hq)) fun _ _ e => e)
theorem W_comp {elt target iter : Expr} {ifs : List Expr} {scope : Scope} {cl : List (Str × Addr)} {pos : Pos} {it : Addr} {n : Nat} {V : Nat → Value → Prop} {D : Nat → Pd} {f0 : Heap} {Q : Value → Shared → Prop} (hsc : compOK scope = true)
    (I : Iter prog w A B it n V D f0) (J : Nat → Heap → Led → List Value → Prop) (H : St B f ((it, D 0) :: N) s) (h0 : Le f0 f) (hJ : J 0 f N [])
    (turn : ∀ C acc i f' N' vs l s' v, i < n → Le f f' → J i f' N' vs → V i v → St B f' ((C, HasVars l) :: (acc, IsLst vs) :: (it, D (i + 1)) :: N') s' →
      Wp prog w A (assign target (compEnvC scope cl C env) v) (fun _ s₂ => Tests prog w A ifs (compEnvC scope cl C env) (fun ok s₃ => if ok = true then
        Wp prog w A (eval elt (compEnvC scope cl C env)) (fun y s₄ => ∃ f'' N'' l', Le f f'' ∧ J (i + 1) f'' N'' (vs ++ [y]) ∧ vs.length < 100000 ∧ St B f'' ((C, HasVars l') :: (acc, IsLst vs) :: (it, D (i + 1)) :: N'') s₄) s₃
        else ∃ f'' N'' l', Le f f'' ∧ J (i + 1) f'' N'' vs ∧ St B f'' ((C, HasVars l') :: (acc, IsLst vs) :: (it, D (i + 1)) :: N'') s₃) s₂) s')
    (fin : ∀ acc f' N' vs s', Le f f' → J n f' N' vs → St B f' ((acc, IsLst vs) :: N') s' → Q (.ref acc) s') : Cp prog w A elt target iter ifs scope cl pos env none (.ref it) Q s := by
  refine ⟨comp_core hsc I J H h0 hJ turn fun C acc f' N' vs l s' hle hJ' H' => ?_⟩
  obtain ⟨m, hn, -⟩ := H'.ns
  exact ⟨m, hn, fun h' hs => fin acc f' N' vs _ hle hJ' (H'.lose (tk := s'.toks) hs.extBut)⟩
theorem W_compA {elt target iter : Expr} {ifs : List Expr} {scope : Scope} {cl : List (Str × Addr)} {pos : Pos} {it : Addr} {n : Nat} {V : Nat → Value → Prop} {D : Nat → Pd} {f0 : Heap} {Q : Value → Shared → Prop} {y : Str} {py : Pos} (hsc : compOK scope = true)
    (I : Iter prog w A B it n V D f0) (J : Nat → Heap → Led → List Value → Prop) (H : St B f ((it, D 0) :: N) s) (h0 : Le f0 f) (hJ : J 0 f N [])
    (turn : ∀ C acc i f' N' vs l s' v, i < n → Le f f' → J i f' N' vs → V i v → St B f' ((C, HasVars l) :: (acc, IsLst vs) :: (it, D (i + 1)) :: N') s' →
      Wp prog w A (assign target (compEnvC scope cl C env) v) (fun _ s₂ => Tests prog w A ifs (compEnvC scope cl C env) (fun ok s₃ => if ok = true then
        Wp prog w A (eval elt (compEnvC scope cl C env)) (fun y s₄ => ∃ f'' N'' l', Le f f'' ∧ J (i + 1) f'' N'' (vs ++ [y]) ∧ vs.length < 100000 ∧ St B f'' ((C, HasVars l') :: (acc, IsLst vs) :: (it, D (i + 1)) :: N'') s₄) s₃
        else ∃ f'' N'' l', Le f f'' ∧ J (i + 1) f'' N'' vs ∧ St B f'' ((C, HasVars l') :: (acc, IsLst vs) :: (it, D (i + 1)) :: N'') s₃) s₂) s')
    (hy : env.kindOf y = some .local)
    (fin : ∀ acc f' N' vs s', Le f f' → J n f' N' vs → St B f' ((acc, IsLst vs) :: N') s' → ∃ l N'', Sel ((env.locals, HasVars l) :: N'') ((acc, IsLst vs) :: N') ∧ ∀ s'', St B f' ((env.locals, HasVars ((y, .ref acc) :: l)) :: N'') s'' → Q .none s'')
    (hp : (env.scope.kind == .class || (env.scope.kind == .module && env.locals != env.globals)) = false := by rfl) : Cp prog w A elt target iter ifs scope cl pos env (some (assign (.Name y py) env)) (.ref it) Q s := by
  refine ⟨comp_core hsc I J H h0 hJ turn fun C acc f' N' vs l s' hle hJ' H' => ?_⟩
  obtain ⟨l2, N'', hsel, hfin⟩ := fin acc f' N' vs s' hle hJ' H'.drop
  have H2 : St B f' ((env.locals, HasVars l2) :: (C, HasVars l) :: N'') s' := by
    obtain ⟨R, hr⟩ := hsel.perm
    have : List.Perm ((env.locals, HasVars l2) :: (C, HasVars l) :: N'' ++ R) ((C, HasVars l) :: (acc, IsLst vs) :: N') := (List.Perm.swap ..).trans (.cons _ hr.symm)
    have H3 := H'.perm this
    exact ⟨H3.sh, H3.base, H3.sub, fun q hq => H3.own q (List.mem_append_left _ hq), by have := H3.nd; rw [List.map_append] at this; exact (List.nodup_append.mp this).1⟩
  show wpAny _ A (assign (.Name y py) env (.ref acc)) _ _ _
  refine wpAny_assign_Name (r_store hy H2 (fun s'' H'' => ?_) hp)
  have H4 := H''.p1
  obtain ⟨m, hn, -⟩ := H4.ns
  exact ⟨m, hn, fun h' hs => hfin _ (H4.lose (tk := s''.toks) hs.extBut)⟩
end
theorem bindL_eq (kf : Str → Option NameKind) : ∀ (binds : List (Str × Value)) (m : Str → Option Value) (k : Str), bindL kf binds m k = ((binds.filter fun x => decide (kf x.1 = some .local)).reverse.lookup k).orElse fun _ => m k
  | [], m, k => rfl
  | (n, v) :: r, m, k => by
    unfold bindL
    rw [bindL_eq kf r]
    by_cases h : kf n = some .local
    · rw [if_pos h, List.filter_cons_of_pos (by simpa using h), List.reverse_cons, List.lookup_append]
      cases List.lookup k (r.filter fun x => decide (kf x.1 = some .local)).reverse with
      | some u => rfl
      | none =>
        by_cases q : k = n
        · subst q; simp [List.lookup_cons]
        · have : (k == n) = false := beq_eq_false_iff_ne.mpr q
          simp [List.lookup_cons, this, q]
    · rw [if_neg h, List.filter_cons_of_neg (by simpa using h)]
theorem bindC_eq (kf : Str → Option NameKind) : ∀ (binds : List (Str × Value)) (m : Str → Option Value) (k : Str), bindC kf binds m k = ((binds.filter fun x => decide (¬ kf x.1 = some .local)).reverse.lookup k).orElse fun _ => m k
  | [], m, k => rfl
  | (n, v) :: r, m, k => by
    unfold bindC
    rw [bindC_eq kf r]
    by_cases h : kf n = some .local
    · rw [if_pos h, List.filter_cons_of_neg (by simpa using h)]
    · rw [if_neg h, List.filter_cons_of_pos (by simpa using h), List.reverse_cons, List.lookup_append]
      cases List.lookup k (r.filter fun x => decide (¬ kf x.1 = some .local)).reverse with
      | some u => rfl
      | none =>
        by_cases q : k = n
        · subst q; simp [List.lookup_cons]
        · have : (k == n) = false := beq_eq_false_iff_ne.mpr q
          simp [List.lookup_cons, this, q]
theorem lookup_of_nodup {α : Type} {n : Str} {c : α} : ∀ {l : List (Str × α)}, (l.map (·.1)).Nodup → (n, c) ∈ l → l.lookup n = some c
  | (k, v) :: r, nd, hm => by
    rw [List.map_cons, List.nodup_cons] at nd
    rcases List.mem_cons.mp hm with e | hm
    · cases e; simp [List.lookup_cons]
    · have hne : n ≠ k := fun e => nd.1 (List.mem_map.mpr ⟨_, hm, e⟩)
      rw [List.lookup_cons, beq_eq_false_iff_ne.mpr hne]
      exact lookup_of_nodup nd.2 hm
noncomputable def cellPd (cv : List (Str × Value)) (n : Str) : Pd := match cv.lookup n with
  | some v => IsCellO v
  | none => IsCellN
noncomputable def bindsC (fd : FuncData) (binds : List (Str × Value)) (L : Addr) : Bool :=
  binds.all fun x => decide (fd.scope.names.lookup x.1 = some .local) || (decide (fd.scope.names.lookup x.1 = some .cell) && ((cellsFrom (L + 1) fd.scope.names []).lookup x.1).isSome)
noncomputable def plainC (fd : FuncData) : Bool := (!fd.scope.isCoroutine) && (!fd.scope.isGenerator) && decide (fd.scope.kind = .function) && fd.closure.isEmpty
section
variable {prog : Program} {w : World} {P : Params} {B : Shared} {f : Heap} {N : Led} {s : Shared} {A : Around} {env : Env} {K : Frag}
theorem W_enterC {fa : Addr} {fd : FuncData} {args : List Value} (binds l cv : List (Str × Value)) (cells : Addr → Led) {body : List Stmt} {n : Nat} {Q : Value → Shared → Prop} (hA : Room A (n + 1)) (hf : FnAt B.heap fa fd) (hlim : B.heap.NoLimit) (H : St B f N s)
    (hbody : fd.body = .stmts body) (hbind : bindArgs fd ⟨args, []⟩ = pure binds) (hp : plainC fd = true) (hb : ∀ L, bindsC fd binds L = true)
    (hl : (binds.filter fun x => decide (fd.scope.names.lookup x.1 = some .local)).reverse = l)
    (hcv : (binds.filter fun x => decide (¬ fd.scope.names.lookup x.1 = some .local)).reverse = cv)
    (hcl : ∀ L, (cellsFrom (L + 1) fd.scope.names []).map (fun p => (p.2, cellPd cv p.1)) = cells L)
    (ns : List Str) (hns : ∀ L, (cellsFrom (L + 1) fd.scope.names []).map (·.1) = ns) (hnd : ns.Nodup)
    (h : ∀ L s', St B f ((L, HasVars l) :: (cells L ++ N)) s' → Room (A.deeper (callEnvC fd L fa)) n → Wp prog w (A.deeper (callEnvC fd L fa)) (execs body (callEnvC fd L fa)) (fun fl s'' => Q (match fl with | .ret v => v | _ => .none) s'') s') : Wp prog w A (call (.ref fa) args) Q s := by
  have hf' := H.fn hf
  simp only [plainC, Bool.and_eq_true, decide_eq_true_eq, Bool.not_eq_true', List.isEmpty_iff] at hp
  obtain ⟨⟨⟨h2, h3⟩, h4⟩, h5⟩ := hp
  refine ⟨wpAny_call (codeAny_call_cells (fd := fd) (body := body) (binds := binds) (by have := hA.d; lia) hf'.at_ rfl ((hlim.keeps H.base).keeps H.sub) hf'.code hbody hbind h5 ?_ (fun s₁ X => ?_) h2 h3 h4)⟩
  · have := hb s.heap.objs.size
    simp only [bindsC, List.all_eq_true, Bool.or_eq_true, Bool.and_eq_true, decide_eq_true_eq] at this
    exact this
  · have hR : Room (A.deeper (callEnvC fd s.heap.objs.size fa)) n := ⟨hA.hh, by have := hA.d; show A.depth + 1 + n < _; lia, by have := hA.u; show A.units + 3 + 4 * n < _; lia⟩
    refine wpAny_mono (h s.heap.objs.size s₁ ?_ hR).run (fun _ _ x => x) fun _ _ x => x.elim
    have hkf : (fun x => (callEnvC fd s.heap.objs.size fa).kindOf x) = fun x => fd.scope.names.lookup x := rfl
    obtain ⟨hh, tk, hsame⟩ := X.toInCall.same
    have hk : Le s.heap s₁.heap := X.toInCall.keep
    have H1 : St B f N s₁ := by rw [hsame] at hk ⊢; exact H.grow (tk := tk) hk
    obtain ⟨oL, eL, nL, hoL, hdL, hkL, hvL⟩ := X.toInCall.ns
    have hold : ∀ p ∈ N, p.1 < s.heap.objs.size := fun p hp => by obtain ⟨_, o, ho, _⟩ := H.own p hp; exact Heap.lt_size ho
    have hfold : ∀ a, s.heap.objs.size ≤ a → f.get? a = none := fun a ha => (H.fresh (get?_size _ ha)).1
    have hvars : HasVars l oL := by
      refine ⟨eL, nL, hdL, hkL, fun k v e => (hvL k).trans ?_⟩
      rw [bindL_eq]
      have : ((binds.filter fun x => decide ((callEnvC fd s.heap.objs.size fa).kindOf x.1 = some .local)).reverse) = l := hl
      rw [this, show l.lookup k = some v from e]; rfl
    have hcells : ∀ n c, (n, c) ∈ (callEnvC fd s.heap.objs.size fa).cells → s.heap.objs.size < c ∧ ∃ o, s₁.heap.get? c = some o ∧ cellPd cv n o := by
      intro n c hm
      have hlk : (callEnvC fd s.heap.objs.size fa).cells.lookup n = some c := by
        exact lookup_of_nodup (by rw [show (callEnvC fd s.heap.objs.size fa).cells = cellsFrom (s.heap.objs.size + 1) fd.scope.names [] from rfl, hns]; exact hnd) hm
      refine ⟨X.above n c hm, ?_⟩
      obtain ⟨o, ho, hd⟩ := X.cell n c hlk
      refine ⟨o, ho, ?_⟩
      rw [bindC_eq] at hd
      have e2 : ((binds.filter fun x => decide (¬ (callEnvC fd s.heap.objs.size fa).kindOf x.1 = some .local)).reverse) = cv := hcv
      rw [e2] at hd
      unfold cellPd
      cases e : cv.lookup n with
      | none => exact ⟨_, hd⟩
      | some v => rw [e] at hd; exact hd
    have hmem : ∀ p ∈ cells s.heap.objs.size, ∃ n, (n, p.1) ∈ (callEnvC fd s.heap.objs.size fa).cells ∧ p.2 = cellPd cv n := by
      intro p hp
      rw [← hcl] at hp
      obtain ⟨⟨n, c⟩, hm, rfl⟩ := List.mem_map.mp hp
      exact ⟨n, hm, rfl⟩
    refine ⟨H1.sh, H1.base, H1.sub, fun q hq => ?_, ?_⟩
    · rcases List.mem_cons.mp hq with rfl | hq
      · exact ⟨hfold _ (Nat.le_refl _), oL, hoL, hvars⟩
      · rcases List.mem_append.mp hq with hq | hq
        · obtain ⟨n, hm, hp⟩ := hmem q hq
          obtain ⟨g1, o, g2, g3⟩ := hcells n q.1 hm
          exact ⟨hfold _ (Nat.le_of_lt g1), o, g2, by rw [hp]; exact g3⟩
        · exact H1.own q hq
    · rw [List.map_cons, List.map_append]
      refine List.nodup_cons.mpr ⟨fun hm => ?_, List.nodup_append.mpr ⟨?_, H1.nd, ?_⟩⟩
      · rcases List.mem_append.mp hm with hm | hm
        · obtain ⟨p, hp, e⟩ := List.mem_map.mp hm
          obtain ⟨n, hm', _⟩ := hmem p hp
          have := (hcells n p.1 hm').1
          rw [show p.1 = s.heap.objs.size from e] at this
          exact Nat.lt_irrefl _ this
        · obtain ⟨p, hp, e⟩ := List.mem_map.mp hm
          have := hold p hp
          rw [show p.1 = s.heap.objs.size from e] at this
          exact Nat.lt_irrefl _ this
      · rw [← hcl, List.map_map]
        have : (List.map ((fun x : Addr × Pd => x.1) ∘ fun p : Str × Addr => (p.2, cellPd cv p.1)) (cellsFrom (s.heap.objs.size + 1) fd.scope.names [])) = (cellsFrom (s.heap.objs.size + 1) fd.scope.names []).map (·.2) := rfl
        rw [this]
        exact List.pairwise_map.mpr X.apart
      · intro a ha b hb e
        subst e
        obtain ⟨p, hp, e1⟩ := List.mem_map.mp ha
        obtain ⟨q, hq, e2⟩ := List.mem_map.mp hb
        obtain ⟨n, hm', _⟩ := hmem p hp
        have g1 := (hcells n p.1 hm').1
        have g2 := hold q hq
        rw [show p.1 = q.1 from e1.trans e2.symm] at g1
        exact Nat.lt_irrefl _ (Nat.lt_trans g1 g2)
theorem W_storeC {x : Str} {c : Addr} {Pc : Pd} {v : Value} {Q : Unit → Shared → Prop} (hl : env.kindOf x = some .cell) (hc : env.cells.lookup x = some c) (H : St B f ((c, Pc) :: N) s) (hP : ∀ o, Pc o → IsCellN o)
    (h : ∀ s', St B f ((c, IsCellO v) :: N) s' → Q () s') (hk : env.scope.kind = .function := by rfl) : Wp prog w A (storeName env x v) Q s := ⟨r_storecell hl hc (H.imp hP) h hk⟩
end
end
section
open PySem
/-! the data of the claim, with no program in sight -/
noncomputable abbrev Nm := Option Str
noncomputable def e0 : Str := Str.ofString ""
noncomputable def nm0 : Nm := some e0
inductive Kd
  | nu | lg | it | ch | ls | pl | ex | sy
noncomputable def Kd.s : Kd → Str
  | .nu => Str.ofString "NULL"
  | .lg => Str.ofString "logical"
  | .it => Str.ofString "integer"
  | .ch => Str.ofString "character"
  | .ls => Str.ofString "list"
  | .pl => Str.ofString "pairlist"
  | .ex => Str.ofString "expression"
  | .sy => Str.ofString "symbol"
noncomputable def Kd.atomic : Kd → Bool
  | .lg | .it | .ch => true
  | _ => false
noncomputable def Kd.treeish : Kd → Bool
  | .ls | .pl | .ex => true
  | _ => false
inductive It
  | no
  | i (n : Int)
  | s (x : Str)
inductive Plan
  | nothing
  | name
  | row (k : Kd) (its : List It) (heads : Option (List Nm))
  | tree (k : Kd) (kids : List Plan) (heads : Option (List Nm))
inductive All2 {α β : Type} (R : α → β → Prop) : List α → List β → Prop
  | nil : All2 R [] []
  | cons {a b as bs} : R a b → All2 R as bs → All2 R (a :: as) (b :: bs)
noncomputable def OkIt : Kd → It → Prop
  | _, .no => True
  | .lg, .i n => n = 0 ∨ n = 1
  | .it, .i n => n = 5 ∨ n = 12
  | .ch, .s x => x.length ≤ 1
  | _, _ => False
noncomputable def OkNm (n : Nm) : Prop := ∀ x, n = some x → x.length ≤ 1
noncomputable def OkHeads (m : Nat) (h : Option (List Nm)) : Prop := ∀ l, h = some l → l.length = m ∧ ∀ n ∈ l, OkNm n
noncomputable def OkPlan : Nat → Plan → Prop
  | _, .nothing => True
  | _, .name => True
  | _, .row k its heads => k.atomic = true ∧ its.length ≤ 3 ∧ (∀ x ∈ its, OkIt k x) ∧ OkHeads its.length heads
  | n + 1, .tree k kids heads => k.treeish = true ∧ kids.length ≤ 3 ∧ (∀ p ∈ kids, OkPlan n p) ∧ OkHeads kids.length heads
  | 0, .tree .. => False
noncomputable def Plan.kd : Plan → Kd
  | .nothing => .nu
  | .name => .sy
  | .row k _ _ => k
  | .tree k _ _ => k
noncomputable def Plan.opens (op : Bool) : Plan → Bool
  | .tree .. => op
  | _ => false
noncomputable def Plan.size : Plan → Nat
  | .nothing => 0
  | .name => 1
  | .row _ its _ => its.length
  | .tree _ kids _ => kids.length
noncomputable def Plan.heads : Plan → List Nm
  | .row _ its h => h.getD (List.replicate its.length nm0)
  | .tree _ kids h => h.getD (List.replicate kids.length nm0)
  | _ => []
/-- names -/
noncomputable def txt (n : Nm) : Str := n.getD (Str.ofString "NA")
noncomputable def jb (base tag : Nm) : Nm := if base ≠ nm0 ∧ tag ≠ nm0 then some (txt base ++ Str.ofString "." ++ txt tag) else if tag ≠ nm0 then tag else base
noncomputable def nt (n : Nat) : Str := Str.ofString (toString (n : Int))
/-- what the walk of the program computes -/
noncomputable def rank : Kd → Nat
  | .nu => 0
  | .lg => 1
  | .it => 2
  | .ch => 4
  | .ls => 5
  | .pl => 5
  | .ex => 6
  | .sy => 5
noncomputable def ofRank : Nat → Kd
  | 1 => .lg
  | 2 => .it
  | 4 => .ch
  | 5 => .ls
  | 6 => .ex
  | _ => .nu
noncomputable def top (ks : List Kd) : Nat := ks.foldl (fun m k => max m (rank k)) 0
mutual
noncomputable def parts (op : Bool) : Plan → List Plan
  | .nothing => []
  | .name => [.name]
  | .row k its hd => [.row k its hd]
  | .tree k kids hd => if op then partsL op kids else [.tree k kids hd]
noncomputable def partsL (op : Bool) : List Plan → List Plan
  | [] => []
  | p :: r => parts op p ++ partsL op r
end
mutual
noncomputable def cl (op : Bool) : Plan → Nat
  | .nothing => 0
  | .name => 1
  | .row _ its _ => its.length
  | .tree _ kids _ => if op then clL op kids else kids.length
noncomputable def clL (op : Bool) : List Plan → Nat
  | [] => 0
  | p :: r => cl op p + clL op r
end
mutual
noncomputable def hn (op : Bool) : Plan → Bool
  | .nothing => false
  | .name => false
  | .row _ _ hd => hd.isSome
  | .tree _ kids hd => hd.isSome || (op && hnL op kids)
noncomputable def hnL (op : Bool) : List Plan → Bool
  | [] => false
  | p :: r => hn op p || hnL op r
end
structure NR where
  names : List Nm
  number : Nat
  count : Nat
noncomputable def leafName (base name : Nm) (number count : Nat) : Nm := if name ≠ nm0 then jb base name else if base = nm0 ∨ count = 1 then base else some (txt base ++ nt number)
noncomputable def leafL (base : Nm) : List Nm → NR → NR
  | [], r => r
  | n :: ns, r => leafL base ns ⟨r.names ++ [leafName base n (r.number + 1) r.count], r.number + 1, r.count⟩
noncomputable def tagStep (b : Nm → NR → NR) (c : Nat) (base tag : Nm) (r : NR) : NR :=
  if tag ≠ nm0 then ⟨(b (jb base tag) ⟨r.names, 0, c⟩).names, (b (jb base tag) ⟨r.names, 0, c⟩).number + r.number, r.count⟩ else b base r
mutual
noncomputable def extB (op : Bool) : Plan → Nm → NR → NR
  | .nothing, _, r => r
  | .name, base, r => leafL base [nm0] r
  | .row _ its hd, base, r => leafL base (hd.getD (List.replicate its.length nm0)) r
  | .tree _ kids hd, base, r => if op then extL op kids (hd.getD (List.replicate kids.length nm0)) base r else leafL base (hd.getD (List.replicate kids.length nm0)) r
noncomputable def extL (op : Bool) : List Plan → List Nm → Nm → NR → NR
  | p :: ps, n :: ns, base, r => extL op ps ns base (tagStep (extB op p) (cl op p) base n r)
  | _, _, _, r => r
end
noncomputable def ext (op : Bool) (p : Plan) (base tag : Nm) (r : NR) : NR := tagStep (extB op p) (cl op p) base tag r
/-- what the law's own road computes -/
structure Row where
  kd : Kd
  it : It
  own : Nm
  base : Nm
  around : List Str
noncomputable def idOf (a b c : Nat) : Str := nt a ++ Str.ofString "/" ++ nt b ++ Str.ofString "/" ++ nt c
noncomputable def rowsOf (k : Kd) (base : Nm) (around : List Str) : List It → List Nm → List Row
  | i :: is, n :: ns => ⟨k, i, n, base, around⟩ :: rowsOf k base around is ns
  | _, _ => []
mutual
noncomputable def spr (op : Bool) : Plan → Nm → List Str → Nat → List Row
  | .nothing, _, _, _ => []
  | .name, base, around, _ => [⟨.ls, .no, nm0, base, around⟩]
  | .row k its hd, base, around, _ => rowsOf k base around its (hd.getD (List.replicate its.length nm0))
  | .tree k kids hd, base, around, n => if op then sprL op kids (hd.getD (List.replicate kids.length nm0)) base around 0 n else rowsOf k base around (kids.map fun _ => It.no) (hd.getD (List.replicate kids.length nm0))
noncomputable def sprL (op : Bool) : List Plan → List Nm → Nm → List Str → Nat → Nat → List Row
  | p :: ps, h :: hs, base, around, spot, n =>
    let here := if h = nm0 then spr op p base around n else spr op p (jb base h) (around ++ [idOf n around.length spot]) n
    here ++ sprL op ps hs base around (spot + 1) (n + here.length)
  | _, _, _, _, _, _ => []
end
noncomputable def lrank : Kd → Nat
  | .lg => 0
  | .it => 1
  | .ch => 2
  | .ls => 3
  | .ex => 4
  | _ => 0
noncomputable def ofLrank : Nat → Kd
  | 0 => .lg
  | 1 => .it
  | 2 => .ch
  | 3 => .ls
  | _ => .ex
mutual
noncomputable def kds (op : Bool) : Plan → List Kd
  | .nothing => []
  | .name => [.ls]
  | .row k _ _ => [k]
  | .tree k kids _ => if op then kdsL op kids else [if k matches .pl then .ls else k]
noncomputable def kdsL (op : Bool) : List Plan → List Kd
  | [] => []
  | p :: r => kds op p ++ kdsL op r
end
noncomputable def lawName (found : List Row) (r : Row) (spot : Nat) : Nm :=
  if r.own ≠ nm0 then jb r.base r.own
  else if r.base = nm0 then nm0
  else
    let beside := (List.range found.length).filter fun k => (found[k]?).any fun q => q.around.any (· == r.around.getLast?.getD e0)
    if beside.length = 1 then r.base else some (txt r.base ++ nt (beside.idxOf spot + 1))
noncomputable def lawNames (found : List Row) : List Nm := (found.zipIdx).map fun x => lawName found x.1 x.2
noncomputable def It.raise (k kd : Kd) : It → It
  | .no => .no
  | .s x => .s x
  | .i n => match k, kd with
    | .lg, .ch => .s (if n = 1 then Str.ofString "TRUE" else Str.ofString "FALSE")
    | .it, .ch => .s (nt n.toNat)
    | _, _ => .i n
end
section
open PySem PySem.W PySem.Calls PyProof.Rows PySem.Spec
theorem All2.length {α β : Type} {R : α → β → Prop} {as bs} (h : All2 R as bs) : as.length = bs.length := by induction h with | nil => rfl | cons _ _ ih => simp [ih]
theorem All2.imp {α β : Type} {R S : α → β → Prop} {as bs} (h : All2 R as bs) (hi : ∀ a ∈ as, ∀ b, R a b → S a b) : All2 S as bs := by
  induction h with
  | nil => exact .nil
  | cons h _ ih => exact .cons (hi _ (.head _) _ h) (ih fun a ha => hi a (.tail _ ha))
theorem All2.snoc {α β : Type} {R : α → β → Prop} {as bs} (h : All2 R as bs) {a b} (hab : R a b) : All2 R (as ++ [a]) (bs ++ [b]) := by
  induction h with
  | nil => exact .cons hab .nil
  | cons h _ ih => exact .cons h ih
theorem All2.app {α β : Type} {R : α → β → Prop} {as bs as' bs'} (h : All2 R as bs) (h' : All2 R as' bs') : All2 R (as ++ as') (bs ++ bs') := by
  induction h with
  | nil => exact h'
  | cons h _ ih => exact .cons h ih
theorem All2.get {α β : Type} {R : α → β → Prop} {as bs} (h : All2 R as bs) {i : Nat} {b : β} (hb : bs[i]? = some b) : ∃ a, as[i]? = some a ∧ R a b := by
  induction h generalizing i with
  | nil => simp at hb
  | @cons a b' as bs hab _ ih =>
    cases i with
    | zero => simp at hb; subst hb; exact ⟨a, by simp, hab⟩
    | succ i => simp at hb; simpa using ih hb
theorem All2.get' {α β : Type} {R : α → β → Prop} {as bs} (h : All2 R as bs) {i : Nat} {a : α} (ha : as[i]? = some a) : ∃ b, bs[i]? = some b ∧ R a b := by
  induction h generalizing i with
  | nil => simp at ha
  | @cons a b' as bs hab _ ih =>
    cases i with
    | zero => simp at ha; subst ha; exact ⟨b', by simp, hab⟩
    | succ i => simp at ha; simpa using ih ha
noncomputable def IsNm : Nm → Value → Prop
  | none, v => v = .none
  | some x, v => ∃ t, v = .str x t
noncomputable def IsIt : It → Value → Prop
  | .no, v => v = .none
  | .i n, v => ∃ t, v = .int n t
  | .s x, v => ∃ t, v = .str x t
noncomputable def LstOf {α : Type} (f : Heap) (R : α → Value → Prop) (xs : List α) (v : Value) : Prop := ∃ a vs, v = .ref a ∧ At f a (IsLst vs) ∧ All2 R xs vs
noncomputable def IsHeads (f : Heap) : Option (List Nm) → Value → Prop
  | none, v => v = .none
  | some hs, v => LstOf f IsNm hs v
noncomputable def IsPlan (f : Heap) : Nat → Plan → Value → Prop
  | _, .nothing, v => ∃ a t, v = .ref a ∧ At f a (IsLst [.str (Str.ofString "nothing") t])
  | _, .name, v => ∃ a t, v = .ref a ∧ At f a (IsLst [.str (Str.ofString "name") t])
  | _, .row k its hd, v => ∃ a t iv hv, v = .ref a ∧ At f a (IsLst [.str k.s t, iv, hv]) ∧ LstOf f IsIt its iv ∧ IsHeads f hd hv
  | n + 1, .tree k kids hd, v => ∃ a t iv hv, v = .ref a ∧ At f a (IsLst [.str k.s t, iv, hv]) ∧ LstOf f (IsPlan f n) kids iv ∧ IsHeads f hd hv
  | 0, .tree .., _ => False
section
variable (prog : Program) (w : World)
noncomputable def IsVec (f : Heap) (x : Addr) (k : Kd) (iv av : Value) : Prop := ∃ dx t b c, At f x (IsInst 321 dx) ∧ At f dx (DictIs w.params [("kind", .str k.s t), ("items", iv), ("attrs", av), ("shared", .bool b), ("loose", .bool c)])
noncomputable def AttrD (v : Value) : Pd := fun o => o.IsDictOf (strKind prog w) [(Str.ofString "names", v)]
noncomputable def IsAttrs (f : Heap) : Option (List Nm) → Value → Prop
  | none, v => v = .none
  | some hs, v => ∃ d c iv av, v = .ref d ∧ (d == sysModules) = false ∧ At f d (AttrD prog w (.ref c)) ∧ IsVec w f c .ch iv av ∧ LstOf f IsNm hs iv
noncomputable def IsVal (f : Heap) : Nat → Plan → Value → Prop
  | _, .nothing, v => ∃ x dx t, v = .ref x ∧ At f x (IsInst 292 dx) ∧ At f dx (DictIs w.params [("kind", .str Kd.nu.s t), ("attrs", .none)])
  | _, .name, v => ∃ x dx t nv, v = .ref x ∧ At f x (IsInst 342 dx) ∧ At f dx (DictIs w.params [("kind", .str Kd.sy.s t), ("name", nv), ("attrs", .none)])
  | _, .row k its hd, v => ∃ x iv av, v = .ref x ∧ IsVec w f x k iv av ∧ LstOf f IsIt its iv ∧ IsAttrs prog w f hd av
  | n + 1, .tree k kids hd, v => ∃ x iv av, v = .ref x ∧ IsVec w f x k iv av ∧ LstOf f (IsVal f n) kids iv ∧ IsAttrs prog w f hd av
  | 0, .tree .., _ => False
end
variable {prog : Program} {w : World}
theorem LstOf.mono {α : Type} {f f' : Heap} {R R' : α → Value → Prop} {xs : List α} {v : Value} (h : LstOf f R xs v) (hl : Le f f') (hr : ∀ x ∈ xs, ∀ v, R x v → R' x v) : LstOf f' R' xs v :=
  let ⟨a, vs, h1, h2, h3⟩ := h; ⟨a, vs, h1, h2.mono hl, h3.imp hr⟩
theorem IsHeads.mono {f f' : Heap} {h : Option (List Nm)} {v : Value} (x : IsHeads f h v) (hl : Le f f') : IsHeads f' h v := by
  cases h with
  | none => exact x
  | some hs => exact LstOf.mono x hl fun _ _ _ h => h
theorem IsPlan.mono {f f' : Heap} (hl : Le f f') : ∀ {n : Nat} {p : Plan} {v : Value}, IsPlan f n p v → IsPlan f' n p v := by
  intro n
  induction n with
  | zero =>
    intro p v h
    cases p with
    | nothing => obtain ⟨a, t, h1, h2⟩ := h; exact ⟨a, t, h1, h2.mono hl⟩
    | name => obtain ⟨a, t, h1, h2⟩ := h; exact ⟨a, t, h1, h2.mono hl⟩
    | row k its hd => obtain ⟨a, t, iv, hv, h1, h2, h3, h4⟩ := h; exact ⟨a, t, iv, hv, h1, h2.mono hl, h3.mono hl fun _ _ _ h => h, h4.mono hl⟩
    | tree => exact h
  | succ n ih =>
    intro p v h
    cases p with
    | nothing => obtain ⟨a, t, h1, h2⟩ := h; exact ⟨a, t, h1, h2.mono hl⟩
    | name => obtain ⟨a, t, h1, h2⟩ := h; exact ⟨a, t, h1, h2.mono hl⟩
    | row k its hd => obtain ⟨a, t, iv, hv, h1, h2, h3, h4⟩ := h; exact ⟨a, t, iv, hv, h1, h2.mono hl, h3.mono hl fun _ _ _ h => h, h4.mono hl⟩
    | tree k kids hd => obtain ⟨a, t, iv, hv, h1, h2, h3, h4⟩ := h; exact ⟨a, t, iv, hv, h1, h2.mono hl, h3.mono hl fun _ _ _ h => ih h, h4.mono hl⟩
theorem IsVec.mono {f f' : Heap} {x : Addr} {k : Kd} {iv av : Value} (h : IsVec w f x k iv av) (hl : Le f f') : IsVec w f' x k iv av :=
  let ⟨dx, t, b, c, h1, h2⟩ := h; ⟨dx, t, b, c, h1.mono hl, h2.mono hl⟩
theorem IsAttrs.mono {f f' : Heap} {h : Option (List Nm)} {v : Value} (x : IsAttrs prog w f h v) (hl : Le f f') : IsAttrs prog w f' h v := by
  cases h with
  | none => exact x
  | some hs => obtain ⟨d, c, iv, av, h1, h2, h3, h4, h5⟩ := x; exact ⟨d, c, iv, av, h1, h2, h3.mono hl, h4.mono hl, h5.mono hl fun _ _ _ h => h⟩
theorem IsVal.mono {f f' : Heap} (hl : Le f f') : ∀ {n : Nat} {p : Plan} {v : Value}, IsVal prog w f n p v → IsVal prog w f' n p v := by
  intro n
  induction n with
  | zero =>
    intro p v h
    cases p with
    | nothing => obtain ⟨x, dx, t, h1, h2, h3⟩ := h; exact ⟨x, dx, t, h1, h2.mono hl, h3.mono hl⟩
    | name => obtain ⟨x, dx, t, nv, h1, h2, h3⟩ := h; exact ⟨x, dx, t, nv, h1, h2.mono hl, h3.mono hl⟩
    | row k its hd => obtain ⟨x, iv, av, h1, h2, h3, h4⟩ := h; exact ⟨x, iv, av, h1, h2.mono hl, h3.mono hl fun _ _ _ h => h, h4.mono hl⟩
    | tree => exact h
  | succ n ih =>
    intro p v h
    cases p with
    | nothing => obtain ⟨x, dx, t, h1, h2, h3⟩ := h; exact ⟨x, dx, t, h1, h2.mono hl, h3.mono hl⟩
    | name => obtain ⟨x, dx, t, nv, h1, h2, h3⟩ := h; exact ⟨x, dx, t, nv, h1, h2.mono hl, h3.mono hl⟩
    | row k its hd => obtain ⟨x, iv, av, h1, h2, h3, h4⟩ := h; exact ⟨x, iv, av, h1, h2.mono hl, h3.mono hl fun _ _ _ h => h, h4.mono hl⟩
    | tree k kids hd => obtain ⟨x, iv, av, h1, h2, h3, h4⟩ := h; exact ⟨x, iv, av, h1, h2.mono hl, h3.mono hl fun _ _ _ h => ih h, h4.mono hl⟩
theorem IsPlan.up {f : Heap} : ∀ {n : Nat} {p : Plan} {v : Value}, IsPlan f n p v → IsPlan f (n + 1) p v := by
  intro n
  induction n with
  | zero =>
    intro p v h
    cases p with
    | nothing => exact h
    | name => exact h
    | row k its hd => exact h
    | tree => exact h.elim
  | succ n ih =>
    intro p v h
    cases p with
    | nothing => exact h
    | name => exact h
    | row k its hd => exact h
    | tree k kids hd => obtain ⟨a, t, iv, hv, h1, h2, h3, h4⟩ := h; exact ⟨a, t, iv, hv, h1, h2, h3.mono (Le.refl f) fun _ _ _ h => ih h, h4⟩
theorem IsVal.up {f : Heap} : ∀ {n : Nat} {p : Plan} {v : Value}, IsVal prog w f n p v → IsVal prog w f (n + 1) p v := by
  intro n
  induction n with
  | zero =>
    intro p v h
    cases p with
    | nothing => exact h
    | name => exact h
    | row k its hd => exact h
    | tree => exact h.elim
  | succ n ih =>
    intro p v h
    cases p with
    | nothing => exact h
    | name => exact h
    | row k its hd => exact h
    | tree k kids hd => obtain ⟨x, iv, av, h1, h2, h3, h4⟩ := h; exact ⟨x, iv, av, h1, h2, h3.mono (Le.refl f) fun _ _ _ h => ih h, h4⟩
theorem OkPlan_nothing (n : Nat) : OkPlan n .nothing := by cases n <;> trivial
theorem OkPlan_name (n : Nat) : OkPlan n .name := by cases n <;> trivial
theorem OkPlan_row {n : Nat} {k : Kd} {its : List It} {hd : Option (List Nm)} : OkPlan n (.row k its hd) = (k.atomic = true ∧ its.length ≤ 3 ∧ (∀ x ∈ its, OkIt k x) ∧ OkHeads its.length hd) := by cases n <;> rfl
theorem IsPlan_nothing {f : Heap} {n : Nat} {v : Value} : IsPlan f n .nothing v = (∃ a t, v = .ref a ∧ At f a (IsLst [.str (Str.ofString "nothing") t])) := by cases n <;> rfl
theorem IsPlan_name {f : Heap} {n : Nat} {v : Value} : IsPlan f n .name v = (∃ a t, v = .ref a ∧ At f a (IsLst [.str (Str.ofString "name") t])) := by cases n <;> rfl
theorem IsPlan_row {f : Heap} {n : Nat} {k : Kd} {its : List It} {hd : Option (List Nm)} {v : Value} : IsPlan f n (.row k its hd) v = (∃ a t iv hv, v = .ref a ∧ At f a (IsLst [.str k.s t, iv, hv]) ∧ LstOf f IsIt its iv ∧ IsHeads f hd hv) := by cases n <;> rfl
theorem IsVal_nothing {f : Heap} {n : Nat} {v : Value} : IsVal prog w f n .nothing v = (∃ x dx t, v = .ref x ∧ At f x (IsInst 292 dx) ∧ At f dx (DictIs w.params [("kind", .str Kd.nu.s t), ("attrs", .none)])) := by cases n <;> rfl
theorem IsVal_name {f : Heap} {n : Nat} {v : Value} : IsVal prog w f n .name v = (∃ x dx t nv, v = .ref x ∧ At f x (IsInst 342 dx) ∧ At f dx (DictIs w.params [("kind", .str Kd.sy.s t), ("name", nv), ("attrs", .none)])) := by cases n <;> rfl
theorem IsVal_row {f : Heap} {n : Nat} {k : Kd} {its : List It} {hd : Option (List Nm)} {v : Value} : IsVal prog w f n (.row k its hd) v = (∃ x iv av, v = .ref x ∧ IsVec w f x k iv av ∧ LstOf f IsIt its iv ∧ IsAttrs prog w f hd av) := by cases n <;> rfl
section
variable {prog : Program} {w : World} {P : Params} {B : Shared} {f : Heap} {N : Led} {s : Shared} {A : Around} {env : Env} {K : Frag}
structure Brg (B : Shared) (f : Heap) (N : Led) (s : Shared) (L : Addr) (m : Str → Option Value) (news : List (Addr × Obj)) : Prop where
  F : Fr noHeap L s.heap m
  G : News noHeap L s.heap news
  mem : ∀ a o, a ≠ L → s.heap.get? a = some o → (a, o) ∈ news
  back : ∀ h' tk, Fr noHeap L h' m → News noHeap L h' news → St B f N { s with heap := h', toks := tk }
  new : ∀ h' tk D o (P : Pd), Fr noHeap L h' m → News noHeap L h' ((D, o) :: news) → (∀ q ∈ news, q.1 < D) → P o → St B f ((D, P) :: N) { s with heap := h', toks := tk }
theorem St.brg (H : St B f N s) {L l} (hL : (L, HasVars l) ∈ N) : ∃ m news, Brg B f N s L m news := by
  obtain ⟨hfL, oL, hoL, eL, nL, hdL, hkL, hvL⟩ := H.own _ hL
  have key : ∀ h' tk, Fr noHeap L h' (fun k => nsFind eL k) → News noHeap L h' (allBut s.heap L L) → St B f N { s with heap := h', toks := tk } := by
    intro h' tk F' N'
    refine ⟨by obtain ⟨hh, t, rfl⟩ := H.sh; exact ⟨h', _, rfl⟩, H.base, fun b o e => ?_, fun q hq => ?_, H.nd⟩
    · have hbL : b ≠ L := fun q => by subst q; rw [show f.get? b = none from hfL] at e; cases e
      exact (N' (b, o) (mem_allBut.mpr ⟨H.sub _ _ e, hbL, hbL⟩)).1
    · obtain ⟨h1, o, h3, h4⟩ := H.own q hq
      refine ⟨h1, ?_⟩
      by_cases hqL : q.1 = L
      · have hq' : q = (L, HasVars l) := Led.uniq H.nd hq hL hqL
        subst hq'
        obtain ⟨o', e', ep', a1, a2, a3, a4⟩ := F'.ns
        exact ⟨o', a1, e', ep', a2, a3, fun k v e => (a4 k).trans (hvL k v e)⟩
      · exact ⟨o, (N' (q.1, o) (mem_allBut.mpr ⟨h3, hqL, hqL⟩)).1, h4⟩
  refine ⟨_, _, ⟨⟨oL, eL, nL, hoL, hdL, hkL, fun _ => rfl⟩, fun b o e => (by rw [noHeap_get] at e; cases e), Nat.zero_le _⟩, ?_, fun a o ha ho => mem_allBut.mpr ⟨ho, ha, ha⟩, key, ?_⟩
  · intro p hp
    obtain ⟨a, b, c⟩ := mem_allBut.mp hp
    exact ⟨a, b, noHeap_get _⟩
  · intro h' tk D o P F' N' hlt hP
    have H' := key h' tk F' (fun p hp => N' p (.tail _ hp))
    have hD := N' (D, o) (.head _)
    have hold : ∀ a, a ≠ L → (∃ o, s.heap.get? a = some o) → a ≠ D := fun a ha ⟨o, ho⟩ e => by
      have := hlt (a, o) (mem_allBut.mpr ⟨ho, ha, ha⟩)
      rw [e] at this; exact Nat.lt_irrefl _ this
    have hfD : f.get? D = none := by
      cases e : f.get? D with
      | none => rfl
      | some o' =>
        exact absurd rfl (hold D hD.2.1 ⟨_, H.sub _ _ e⟩)
    refine ⟨H'.sh, H'.base, H'.sub, fun q hq => ?_, List.nodup_cons.mpr ⟨fun hm => ?_, H'.nd⟩⟩
    · rcases List.mem_cons.mp hq with rfl | hq
      · exact ⟨hfD, o, hD.1, hP⟩
      · exact H'.own q hq
    · obtain ⟨q, hq, e⟩ := List.mem_map.mp hm
      obtain ⟨_, o', ho', _⟩ := H.own q hq
      by_cases hqL : q.1 = L
      · exact hD.2.1 ((show q.1 = D from e) ▸ hqL)
      · exact hold q.1 hqL ⟨_, ho'⟩ e
/-- unpacking -/
structure Ao (prog : Program) (w : World) (A : Around) (ts : List (Value → Sem Unit)) (vs : List Value) (Q : Unit → Shared → Prop) (s : Shared) : Prop where
  run : Wq prog w A (assignInOrder ts vs) Q s
theorem Ao_nil {Q : Unit → Shared → Prop} (h : Q () s) : Ao prog w A [] [] Q s := ⟨assignInOrder_nil h⟩
theorem Ao_cons {t : Value → Sem Unit} {ts : List (Value → Sem Unit)} {v : Value} {vs : List Value} {Q : Unit → Shared → Prop} (h : Wp prog w A (t v) (fun _ s₁ => Ao prog w A ts vs Q s₁) s) : Ao prog w A (t :: ts) (v :: vs) Q s :=
  ⟨assignInOrder_cons (h.run.mono fun _ _ x => x.run)⟩
theorem W_unpackL {elts : List Expr} {k : Nat} {pos : Pos} {a : Addr} {vs : List Value} {Q : Unit → Shared → Prop} (H : St B f N s) (hh : A.handled = none) (ha : At s.heap a (IsLst vs)) (hn : (assignEach elts env).length = vs.length) (hs : (assignEach elts env).findIdx? (·.1) = none)
    (h : ∀ s', St B f N s' → Ao prog w A ((assignEach elts env).map (·.2)) vs Q s') : Wp prog w A (assign (.Tuple elts k pos) env (.ref a)) Q s := by
  refine ⟨?_⟩
  show wpAny _ _ _ _ _ _
  rw [assign_Tuple]
  refine wpAny_bind (wpAny_standAt ?_)
  unfold unpack
  rw [hn, hs, show vs.length = vs.toArray.size from (List.size_toArray).symm]
  refine wpAny_bind (wpAny_holding (kun_itemsOf hh ha.lst fun h' he => ?_))
  exact (h _ (H.ext (tk := s.toks) he)).run
noncomputable def TupW (items : Array Value) : Pd := fun o => o.cls = .type "tuple" ∧ ∃ n, o.data = .seq items n
theorem IsTupO.wk {vs : List Value} {o : Obj} (h : IsTupO vs o) : TupW vs.toArray o := by obtain ⟨n, rfl⟩ := h; exact ⟨rfl, n, rfl⟩
theorem At.tup {h : Heap} {a : Addr} {vs : List Value} (x : At h a (IsTupO vs)) : IsTup h a vs.toArray := let ⟨o, h1, h2⟩ := x; ⟨o, h1, (IsTupO.wk h2).1, (IsTupO.wk h2).2⟩
theorem W_unpackT {elts : List Expr} {k : Nat} {pos : Pos} {a : Addr} {vs : List Value} {Q : Unit → Shared → Prop} (H : St B f N s) (hh : A.handled = none) (ha : At s.heap a (IsTupO vs)) (hn : (assignEach elts env).length = vs.length) (hs : (assignEach elts env).findIdx? (·.1) = none)
    (h : ∀ s', St B f N s' → Ao prog w A ((assignEach elts env).map (·.2)) vs Q s') : Wp prog w A (assign (.Tuple elts k pos) env (.ref a)) Q s :=
  ⟨assign_Tuple_tuple hh ha.tup (by rw [hn, List.size_toArray]) hs fun h' he => (h _ (H.ext (tk := s.toks) he)).run⟩
theorem W_Assign_Tuple {elts k tpos value pos} {Q : Flow → Shared → Prop} (h : Wp prog w A (eval value env) (fun v s₁ => Wp prog w A (assign (.Tuple elts k tpos) env v) (fun _ => Q .next) s₁) s)
    (hs : swapsWithSole [.Tuple elts k tpos] value pos.line env = pure false := by rfl) (hw : swappedStores [.Tuple elts k tpos] value env = pure none := by rfl) : Wp prog w A (exec (.Assign [.Tuple elts k tpos] value pos) env) Q s :=
  ⟨Assign_Tuple (h.run.mono fun _ _ x => x.run) hs hw⟩
/-- max -/
theorem W_max2 {a b : Int} {t u : Tok} {L l} {Q : Value → Shared → Prop} (H : St B f N s) (hL : (L, HasVars l) ∈ N) (hh : A.handled = none) (h : ∀ t s', St B f N s' → Q (.int (max a b) t) s') : Wp prog w A (call (.builtin "max") [.int a t, .int b u]) Q s := by
  obtain ⟨m, news, X⟩ := H.brg hL
  refine ⟨max_two_N hh X.F X.G fun h' tk F' N' => ?_⟩
  have := h (if b > a then u else t) _ (X.back h' tk F' N')
  rwa [show (max a b) = if b > a then b else a by split <;> lia] at this
theorem W_maxL {a : Addr} {vs : List Value} {ns : List Int} {L l} {Q : Value → Shared → Prop} (H : St B f N s) (hL : (L, HasVars l) ∈ N) (hh : A.handled = none) (ha : At s.heap a (IsLst vs)) (hi : IntsAre vs ns) (hne : 0 < ns.length)
    (h : ∀ M t s', M ∈ ns → (∀ a ∈ ns, a ≤ M) → St B f N s' → Q (.int M t) s') : Wp prog w A (call (.builtin "max") [.ref a]) Q s := by
  obtain ⟨m, news, X⟩ := H.brg hL
  exact ⟨kso_max X.F X.G ha.lst hi hne hh fun h' M t tk F' N' h1 h2 => h M t _ h1 h2 (X.back h' tk F' N')⟩
/-- list(xs) -/
theorem W_listof {a : Addr} {vs : List Value} {L l} {Q : Value → Shared → Prop} (H : St B f N s) (hL : (L, HasVars l) ∈ N) (ha : At s.heap a (IsLst vs)) (hn : vs.length ≤ 100000) (h : ∀ b s', St B f ((b, IsLst vs) :: N) s' → Q (.ref b) s') :
    Wp prog w A (call (.type "list") [.ref a]) Q s := by
  obtain ⟨m, news, X⟩ := H.brg hL
  exact ⟨list_copyK X.F X.G ha.lst (fun D c h' F' N' hl => h D _ (X.new h' s.toks D _ _ F' N' hl ⟨c, rfl⟩)) (by rw [List.size_toArray, sizeLine_eq]; lia)⟩
theorem foldl_rep (v : Value) : ∀ (k : Nat) (acc : Array Value), List.foldl (fun x1 x2 => x1 ++ x2) acc (List.replicate k #[v]) = acc ++ (List.replicate k v).toArray
  | 0, acc => by simp
  | k + 1, acc => by rw [List.replicate_succ, List.foldl_cons, foldl_rep v k, List.replicate_succ]; simp [Array.append_assoc]; rw [← Array.toList_inj]; simp
theorem W_mulL {a : Addr} {v : Value} {k : Nat} {t : Tok} {L l} {Q : Value → Shared → Prop} (H : St B f N s) (hL : (L, HasVars l) ∈ N) (ha : At s.heap a (IsLst [v])) (hk : k ≤ 100000) (h : ∀ b s', St B f ((b, IsLst (List.replicate k v)) :: N) s' → Q (.ref b) s') :
    Wp prog w A (binaryOp .Mult (.ref a) (.int k t)) Q s := by
  obtain ⟨m, news, X⟩ := H.brg hL
  obtain ⟨o, ho, n, rfl⟩ := ha
  refine ⟨mul_list X.F X.G ho (by lia) (by lia) (by simp; lia) (fun h' F' N' => h _ _ (X.new h' s.toks _ _ _ F' N' (fun q hq => Heap.lt_size (X.G q hq).1) ⟨0, ?_⟩))⟩
  simp only [listO]
  rw [show (if (#[v] : Array Value).isEmpty = true then 0 else (k : Int).toNat) = k by simp, show ([v].toArray) = #[v] from rfl, foldl_rep]
  simp
/-- comparisons of plain values -/
noncomputable def Plain : Value → Bool
  | .none | .int _ _ | .str _ _ => true
  | _ => false
noncomputable def same' : Value → Value → Bool
  | .none, .none => true
  | .int a _, .int b _ => a == b
  | .str x _, .str y _ => x == y
  | _, _ => false
end
end
section
open PySem PySem.W PySem.Calls PyProof.Rows PySem.Spec PySem.SeqAt
theorem isv_Vector (P : Params) : isIn (K0 P) (.ref 321) 321 = true := by kernel_rfl
noncomputable def notVec (K : Frag) (D : Addr) : Bool := kin_not K D 321 && plainGet K D "__class__" && hasDictIn K D && (findIn K (.ref D) "__class__" == some (some (.builtin "object.__class__"))) &&
  (specialIn K (.builtin "object.__class__") "__get__" == some (some (.builtin "getset_descriptor.__get__"))) && (takesIn K (.builtin "object.__class__") == some true) && (mroIn K D (.type "object") == some true)
theorem nv_Null (P : Params) : notVec (K0 P) 292 = true := by kernel_rfl
theorem nv_Symbol (P : Params) : notVec (K0 P) 342 = true := by kernel_rfl
section
variable {prog : Program} {w : World} {P : Params} {B : Shared} {f : Heap} {N : Led} {s : Shared} {A : Around} {env : Env} {K : Frag}
theorem W_isVec {x dx : Addr} {kvs : List (Str × Value)} {Q : Value → Shared → Prop} (X : Base (K0 P) B) (H : St B f N s) (hx : At s.heap x (IsInst 321 dx)) (hd : At s.heap dx (DictIs w.params kvs)) (h : ∀ s', St B f N s' → Q (.bool true) s') :
    Wp prog w A (call (.builtin "isinstance") [.ref x, .ref 321]) Q s := by
  obtain ⟨es, n, he, h2, I⟩ := inst_at hx hd
  exact ⟨isi_call (H.K X) (fun M => I.type) (isv_Vector P) (by intro e; cases e) (h _ H)⟩
theorem W_notVec {x dx D : Addr} {kvs : List (Str × Value)} {Q : Value → Shared → Prop} (hD : notVec (K0 P) D = true) (X : Base (K0 P) B) (H : St B f N s) (hx : At s.heap x (IsInst D dx)) (hd : At s.heap dx (DictIs w.params kvs)) (h : ∀ s', St B f N s' → Q (.bool false) s') :
    Wp prog w A (call (.builtin "isinstance") [.ref x, .ref 321]) Q s := by
  obtain ⟨es, n, he, h2, I⟩ := inst_at hx hd
  simp only [notVec, Bool.and_eq_true, beq_iff_eq] at hD
  obtain ⟨⟨⟨⟨⟨⟨h1, h2⟩, h3⟩, h4⟩, h5⟩, h6⟩, h7⟩ := hD
  exact ⟨kin_callC (H.K X) I h1 h2 h3 h4 h5 h6 h7 (h _ (H.tok _))⟩
/-- tests -/
theorem W_tAnd2 {x y : Expr} {pos : Pos} {whole : Sem Value} {Q : Bool → Shared → Prop} (h : Wp prog w A (isTrue x env (eval x env)) (fun c s' => if c then Wp prog w A (isTrue y env (eval y env)) Q s' else Q false s') s) : Wp prog w A (isTrue (.BoolOp .And [x, y] pos) env whole) Q s :=
  ⟨isTrue_and (h.run.mono fun c s' z => by
    cases c with
    | false => exact z
    | true => exact isTrue_and (z.run.mono fun c s' z => by
      cases c with
      | false => exact z
      | true => exact isTrue_and_nil z))⟩
theorem W_tOr2 {x y : Expr} {pos : Pos} {whole : Sem Value} {Q : Bool → Shared → Prop} (h : Wp prog w A (isTrue x env (eval x env)) (fun c s' => if c then Q true s' else Wp prog w A (isTrue y env (eval y env)) Q s') s) : Wp prog w A (isTrue (.BoolOp .Or [x, y] pos) env whole) Q s :=
  ⟨isTrue_or (h.run.mono fun c s' z => by
    cases c with
    | true => exact z
    | false => exact isTrue_or (z.run.mono fun c s' z => by
      cases c with
      | true => exact z
      | false => exact isTrue_or_nil z))⟩
theorem W_tOr3 {x y z : Expr} {pos : Pos} {whole : Sem Value} {Q : Bool → Shared → Prop} (h : Wp prog w A (isTrue x env (eval x env)) (fun c s' => if c then Q true s' else Wp prog w A (isTrue y env (eval y env)) (fun c s' => if c then Q true s' else Wp prog w A (isTrue z env (eval z env)) Q s') s') s) : Wp prog w A (isTrue (.BoolOp .Or [x, y, z] pos) env whole) Q s :=
  ⟨isTrue_or (h.run.mono fun c s' z => by
    cases c with
    | true => exact z
    | false => exact isTrue_or (z.run.mono fun c s' z => by
      cases c with
      | true => exact z
      | false => exact isTrue_or (z.run.mono fun c s' z => by
        cases c with
        | true => exact z
        | false => exact isTrue_or_nil z)))⟩
theorem W_OrC {x y : Expr} {rest : List Expr} {pos : Pos} {Q : Value → Shared → Prop} (h : Wp prog w A (eval x env) (fun v s₁ => Wp prog w A (truthy v) (fun t s₂ => if t then Q v s₂ else Wp prog w A (eval (.BoolOp .Or (y :: rest) pos) env) Q s₂) s₁) s) :
    Wp prog w A (eval (.BoolOp .Or (x :: y :: rest) pos) env) Q s := by
  refine ⟨?_⟩
  show wpAny (model prog w) A (do
    let v ← eval x env
    standAt pos
    let t ← holding [v] (truthy v)
    match BoolOp.Or, t with
    | .And, false | .Or, true => pure v
    | _, _ => eval (.BoolOp .Or (y :: rest) pos) env) Q FF s
  refine wpAny_bind (wpAny_mono h.run (fun v s₁ h₁ => wpAny_bind (wpAny_standAt (wpAny_bind (wpAny_holding (wpAny_mono h₁.run (fun t s₂ h₂ => ?_) fun _ _ x => x))))) fun _ _ x => x)
  cases t with
  | false => exact h₂.run
  | true => exact wpAny_pure h₂
/-- None and texts -/
theorem W_eqns {y : Str} {u : Tok} {Q : Value → Shared → Prop} (h : Q (.bool false) s) : Wp prog w A (compareOp .Eq .none (.str y u)) Q s := ⟨PySem.EqNone.eq_none_str h⟩
theorem W_nens {y : Str} {u : Tok} {Q : Value → Shared → Prop} (h : Q (.bool true) s) : Wp prog w A (compareOp .NotEq .none (.str y u)) Q s := ⟨PySem.EqNone.ne_none_str h⟩
theorem nm_eq {n : Nm} {v : Value} {y : Str} {u : Tok} {Q : Value → Shared → Prop} (hv : IsNm n v) (h : Q (.bool (n == some y)) s) : Wp prog w A (compareOp .Eq v (.str y u)) Q s := by
  cases n with
  | none => cases hv; exact W_eqns h
  | some x => obtain ⟨t, rfl⟩ := hv; exact W_eqs (by rw [show ((some x : Nm) == some y) = (x == y) from rfl] at h; exact h)
theorem nm_ne {n : Nm} {v : Value} {y : Str} {u : Tok} {Q : Value → Shared → Prop} (hv : IsNm n v) (h : Q (.bool (n != some y)) s) : Wp prog w A (compareOp .NotEq v (.str y u)) Q s := by
  cases n with
  | none => cases hv; exact W_nens h
  | some x => obtain ⟨t, rfl⟩ := hv; exact W_nes (by rw [show ((some x : Nm) != some y) = (x != y) from rfl] at h; exact h)
theorem nm_is {n : Nm} {v : Value} {Q : Value → Shared → Prop} (hv : IsNm n v) (h : Q (.bool n.isNone) s) : Wp prog w A (compareOp .Is v .none) Q s := by
  cases n with
  | none => cases hv; exact W_isnone h
  | some x => obtain ⟨t, rfl⟩ := hv; exact W_isnone h
/-- texts -/
theorem W_adds {x y : Str} {t u : Tok} {Q : Value → Shared → Prop} (H : St B f N s) (hsz : x.length + y.length ≤ 100000) (h : ∀ t s', St B f N s' → Q (.str (x ++ y) t) s') : Wp prog w A (binaryOp .Add (.str x t) (.str y u)) Q s :=
  ⟨PyProof.Rows.add_str (fun t' tk => h _ _ (H.tok _)) (by rw [sizeLine_eq]; lia)⟩
theorem W_stri {n : Nat} {t : Tok} {Q : Value → Shared → Prop} (H : St B f N s) (hn : n < 100000) (h : ∀ t s', St B f N s' → Q (.str (nt n) t) s') : Wp prog w A (call (.type "str") [.int n t]) Q s :=
  ⟨PySem.P.str_of_int (by
    show n.log2 < 1920
    have : n.log2 ≤ n := Nat.log2_le_self n
    by_cases q : n < 1920
    · lia
    · have h2 : n < 2 ^ 17 := by lia
      have := (Nat.log2_lt (by lia)).mpr h2
      lia) (h _ _ (H.tok _))⟩
/-- in -/
theorem W_inT {a : Addr} {vs : List Value} {ys : List Str} {x : Str} {u : Tok} {Q : Value → Shared → Prop} (ha : At s.heap a (IsTupO vs)) (hi : StrsAre vs ys) (h : Q (.bool (ys.any (· == x))) s) : Wp prog w A (compareOp .In (.str x u) (.ref a)) Q s :=
  ⟨in_tuple_strs ha.tup hi h⟩
theorem W_inL {a : Addr} {vs : List Value} {ys : List Str} {x : Str} {u : Tok} {Q : Value → Shared → Prop} (ha : At s.heap a (IsLst vs)) (hi : StrsAre vs ys) (h : Q (.bool (ys.any (· == x))) s) : Wp prog w A (compareOp .In (.str x u) (.ref a)) Q s :=
  ⟨in_list_strs ha.lst hi h⟩
/-- lists compared -/
noncomputable def ItEq (a b : Value) : Prop := (a = .none ∧ b = .none) ∨ (∃ i t u, a = .int i t ∧ b = .int i u) ∨ (∃ x t u, a = .str x t ∧ b = .str x u) ∨ (∃ r, a = .ref r ∧ b = .ref r)
theorem ItEq.eqAt {a b : Value} (h : ItEq a b) : EqAt A s a b true := by
  rcases h with ⟨rfl, rfl⟩ | ⟨i, t, u, rfl, rfl⟩ | ⟨x, t, u, rfl, rfl⟩ | ⟨r, rfl, rfl⟩
  · exact EqAt.same _
  · have := EqAt.int_int (A := A) (s := s) i t i u; rwa [show (i == i) = true by simp] at this
  · have := (PyProof.Rows.eqGives_str x x t u).at A s; rwa [show (x == x) = true by simp] at this
  · exact EqAt.same _
theorem All2.idx {α β : Type} {R : α → β → Prop} {as : List α} {bs : List β} (h : All2 R as bs) (j : Nat) (h1 : j < as.length) (h2 : j < bs.length) : R as[j] bs[j] := by
  induction h generalizing j with
  | nil => simp at h1
  | cons hab _ ih =>
    cases j with
    | zero => exact hab
    | succ j => exact ih j (by simpa using h1) (by simpa using h2)
theorem all_true (n : Nat) : (List.range n).all (fun _ => true) = true := by simp
theorem W_eqLL {a b : Addr} {vs us : List Value} {Q : Value → Shared → Prop} (ha : At s.heap a (IsLst vs)) (hb : At s.heap b (IsLst us)) (hu : A.units < cLine) (he : All2 ItEq vs us) (h : Q (.bool true) s) : Wp prog w A (compareOp .Eq (.ref a) (.ref b)) Q s :=
  ⟨eq_listAt (e := fun _ => true) ha.lst hb.lst (by simp [he.length]) hu (fun j h1 h2 => ItEq.eqAt (by simpa using he.idx j (by simpa using h1) (by simpa using h2))) (by rw [all_true]; exact h)⟩
theorem W_neLL {a b : Addr} {vs us : List Value} {Q : Value → Shared → Prop} (ha : At s.heap a (IsLst vs)) (hb : At s.heap b (IsLst us)) (hu : A.units < cLine) (he : All2 ItEq vs us) (h : Q (.bool false) s) : Wp prog w A (compareOp .NotEq (.ref a) (.ref b)) Q s :=
  ⟨RcNeAt.lists (e := fun _ => true) ha.lst hb.lst (by simp [he.length]) hu (fun j h1 h2 => ItEq.eqAt (by simpa using he.idx j (by simpa using h1) (by simpa using h2))) prog w _ _ (by rw [all_true]; exact h)⟩
theorem W_eqL0 {a b : Addr} {vs : List Value} {Q : Value → Shared → Prop} (ha : At s.heap a (IsLst vs)) (hb : At s.heap b (IsLst [])) (hu : A.units < cLine) (h : Q (.bool vs.isEmpty) s) : Wp prog w A (compareOp .Eq (.ref a) (.ref b)) Q s := by
  cases vs with
  | nil => exact W_eqLL ha hb hu .nil h
  | cons v r => exact ⟨eq_list_lengthsAt ha.lst hb.lst (by simp) hu h⟩
/-- dicts -/
theorem news1 {h : Heap} {d : Addr} {o : Obj} (e : h.get? d = some o) : News noHeap (d + 1) h [(d, o)] := by
  intro p hp
  rw [List.mem_singleton.mp hp]
  exact ⟨e, Nat.ne_of_lt (Nat.lt_succ_self _), noHeap_get _⟩
theorem W_gm_get {d : Addr} {v : Value} {pl : Sem Bool} {Q : Value × List Value → Shared → Prop} (hd : At s.heap d (AttrD prog w v)) (h : Q (.builtin "dict.get", [.ref d]) s) : Wp prog w A (getMethod (.ref d) "get" pl) Q s := by
  obtain ⟨o, ho, hd⟩ := hd
  exact ⟨kdg_method (news1 ho) (.head _) hd h⟩
theorem W_dget {d : Addr} {v : Value} {k : Str} {t : Tok} {Q : Value → Shared → Prop} (H : St B f N s) (hd : At s.heap d (AttrD prog w v)) (lo : (d == sysModules) = false) (x : Option Value) (hx : valueAt [(Str.ofString "names", v)] k = x) (h : ∀ s', St B f N s' → Q (x.getD .none) s') :
    Wp prog w A (call (.builtin "dict.get") [.ref d, .str k t]) Q s := by
  obtain ⟨o, ho, hd⟩ := hd
  exact ⟨kdg_get1 (news1 ho) (.head _) hd lo (strKind_is _ _ _ _) x hx (h _ (H.tok _))⟩
theorem W_din {d : Addr} {v : Value} {k : Str} {t : Tok} {Q : Value → Shared → Prop} (H : St B f N s) (hd : At s.heap d (AttrD prog w v)) (lo : (d == sysModules) = false) (b : Bool) (hx : (valueAt [(Str.ofString "names", v)] k).isSome = b) (h : ∀ s', St B f N s' → Q (.bool b) s') :
    Wp prog w A (compareOp .In (.str k t) (.ref d)) Q s := by
  obtain ⟨o, ho, hd⟩ := hd
  exact ⟨kda_in (news1 ho) (.head _) hd lo (strKind_is _ _ _ _) b hx (h _ (H.tok _))⟩
theorem W_ditem {value slice : Expr} {d : Addr} {v : Value} {k : Str} {t : Tok} {Q : Value → Shared → Prop} (H : St B f N s) (hd : At s.heap d (AttrD prog w v)) (hx : valueAt [(Str.ofString "names", v)] k = some v) (h : ∀ s', St B f N s' → Q v s')
    (hs : subscripted slice false (.ref d) (.str k t) = operate [.ref d, .str k t] (getItem (.ref d) (.str k t)) := by with_unfolding_all rfl) : Wp prog w A (subscriptTail value slice (.ref d) (.str k t)) Q s := by
  obtain ⟨o, ho, hd⟩ := hd
  exact ⟨kdt_tail (news1 ho) (.head _) hd (kdt_getItem (news1 ho) (.head _) hd (strKind_is _ _ _ _) hx (h _ (H.tok _))) hs⟩
theorem W_dict1 {c : Nat} {kp : Pos} {v : Expr} {pos : Pos} {Q : Value → Shared → Prop} (X : Base K B) (H : St B f N s)
    (h : ∀ d s1, (d == sysModules) = false → St B f ((d, fun o => o.IsDictOf (strKind prog w) []) :: N) s1 → Wp prog w A (eval v env) (fun x s2 => ∃ f' N', St B f' ((d, fun o => o.IsDictOf (strKind prog w) []) :: N') s2 ∧ ∀ s3, St B f' ((d, AttrD prog w x) :: N') s3 → Q (.ref d) s3) s1) :
    Wp prog w A (eval (.Dict [some (.Constant (.str (Str.ofString "names")) c kp)] [v] pos) env) Q s := by
  have hlow : (s.heap.objs.size == sysModules) = false := beq_eq_false_iff_ne.mpr (Nat.ne_of_gt (modules_low ((X.lim.keeps H.base).keeps H.sub)))
  obtain ⟨o0, ho0, hd0⟩ := Heap.dictOf_iff.mp (Heap.DictOf.new (knd := strKind prog w) s.heap)
  have H1 := H.growNew (h' := s.heap.push { cls := .type "dict", data := .dict #[] }) (tk := s.toks) (P := fun o => o.IsDictOf (strKind prog w) []) (fun b o' e => Heap.get?_push_of_some _ e) (get?_size _ (Nat.le_refl _)) ho0 hd0
  refine ⟨wpAny_Dict_walk (knd := strKind prog w) rfl rfl (by simp) (by simp) (pairTrees_cons_walk (r_str H1 fun t s1 H2 => ?_))⟩
  refine (h _ _ hlow H2).run.mono fun x s2 h2 => ?_
  obtain ⟨f', N', H3, hq⟩ := h2
  refine pairTrees_nil_walk ?_
  obtain ⟨o3, ho3, hd3⟩ := H3.get
  refine display_done_str (vs := [(.str (Str.ofString "names") t, x)]) rfl (by simp [strPairs]) (Heap.dictOf_iff.mpr ⟨o3, ho3, hd3⟩) fun h' hm hs => ?_
  obtain ⟨o', ho', hd'⟩ := Heap.dictOf_iff.mp hm
  exact hq _ (H3.upd hs ho' hd')
end
end
section
open PySem PySem.W PySem.Calls PyProof.Rows PySem.Spec PySem.SeqAt PySem.MeetsSeq
theorem wpAny_forIn_range {M : Model} {A : Around} {E : Value → Shared → Prop} {s : Shared} {β : Type} (n : Nat) (f : Nat → β → Sem (ForInStep β)) (I : Nat → β → Shared → Prop) (Q : β → Shared → Prop)
    (turn : ∀ i b s, i < n → I i b s → wpAny M A (f i b) (fun r s' => match r with | .done b' => Q b' s' | .yield b' => I (i + 1) b' s') E s)
    (fin : ∀ b s, I n b s → Q b s) (init : β) (h : I 0 init s) : wpAny M A (forIn [:n] init f) Q E s := by
  rw [Std.Legacy.Range.forIn_eq_forIn_range']
  simp only [Std.Legacy.Range.size, Nat.sub_zero, Nat.add_sub_cancel, Nat.div_one]
  refine wpAny_forIn_list f (fun rest b s' => ∃ i, i ≤ n ∧ rest = List.range' i (n - i) ∧ I i b s') Q ?_ ?_ _ _ ⟨0, Nat.zero_le _, by simp, h⟩
  · rintro y rest b s' ⟨i, hi, hr, hI⟩
    have hlt : i < n := by
      by_cases q : i < n
      · exact q
      · rw [show n - i = 0 by lia] at hr; cases hr
    rw [show n - i = (n - (i + 1)) + 1 by lia, List.range'_succ] at hr
    obtain ⟨rfl, rfl⟩ := List.cons.inj hr
    refine wpAny_mono (turn _ _ _ hlt hI) (fun r s'' h => ?_) fun _ _ x => x
    cases r with
    | done b' => exact h
    | yield b' => exact ⟨_, hlt, rfl, h⟩
  · rintro b s' ⟨i, hi, hr, hI⟩
    have : n - i = 0 := by
      have := congrArg List.length hr
      simpa using this.symm
    exact fin _ _ ((show i = n by lia) ▸ hI)
theorem tuple_index (l : Addr) (items : Array Value) (n : Nat) (x : Value) (e : Value → Bool) (he : ∀ y, y ∈ items → EqGives y x (e y)) (j : Nat) (hj : j < items.size) (hit : e items[j] = true) (hno : ∀ m (hm : m < items.size), m < j → e items[m] = false) :
    Meets (Builtin.«tuple.index» ⟨[.ref l, x], []⟩)
      (fun _ R s => s.heap.get? l = some { cls := .type "tuple", dict := none, data := .seq items n, slots := #[] } ∧ R (.ok (.ret (.int j s.toks))) { s with toks := s.toks + 1 }) :=
  .of_wp fun prog w A R s h => by
    obtain ⟨hp, g, d, tk, os⟩ := s; obtain ⟨hl, h⟩ := h
    wp_walk using wpAny_loadPart' hl, wpAny_forIn_range _ _ (fun i b s' => b.1 = none ∧ i ≤ j ∧ s' = ⟨hp, g, d, tk, os⟩) _
    case turn =>
      rintro i ⟨b1, b2⟩ s' hi ⟨hb, hij, rfl⟩
      have hi' : i < items.size := by lia
      rw [show items[i]? = some items[i] by simp [hi']]
      refine wpAny_bind (he _ (Array.getElem_mem hi') prog w _ _ _ _ ?_)
      by_cases q : i = j
      · subst q
        rw [hit]
        wp_walk
        exact ⟨_, rfl, h⟩
      · rw [hno i hi' (by lia)]
        wp_walk
        exact ⟨rfl, by lia, rfl⟩
    case fin =>
      rintro ⟨b1, b2⟩ s' ⟨hb, hij, rfl⟩
      lia
    case h =>
      exact ⟨rfl, Nat.zero_le _, rfl⟩
section
variable {prog : Program} {w : World} {P : Params} {B : Shared} {f : Heap} {N : Led} {s : Shared} {A : Around} {env : Env} {K : Frag}
theorem W_gmT_index {l : Addr} {vs : List Value} {pl : Sem Bool} {Q : Value × List Value → Shared → Prop} (hl : At s.heap l (IsTupO vs)) (h : Q (.builtin "tuple.index", [.ref l]) s) : Wp prog w A (getMethod (.ref l) "index" pl) Q s := by
  obtain ⟨o, ho, n, rfl⟩ := hl
  exact ⟨getMethod_builtin ⟨_, ho, rfl⟩ PySem.F.plainAttrs_tuple PySem.F.slot_tuple_index PySem.F.type_tuple_index (fun a e => by cases e; exact ⟨_, ho, rfl⟩) h⟩
noncomputable def strE (x : Str) : Value → Bool
  | .str y _ => y == x
  | _ => false
theorem StrsAre.get {vs : List Value} {ys : List Str} (h : StrsAre vs ys) : vs.length = ys.length ∧ ∀ j (h1 : j < vs.length) (h2 : j < ys.length), ∃ t, vs[j] = .str ys[j] t := by
  induction h with
  | nil => exact ⟨rfl, fun j h => by simp at h⟩
  | cons y t _ ih =>
    refine ⟨by simp [ih.1], fun j h1 h2 => ?_⟩
    cases j with
    | zero => exact ⟨t, rfl⟩
    | succ j => exact ih.2 j (by simpa using h1) (by simpa using h2)
theorem strE_gives {vs : List Value} {ys : List Str} (h : StrsAre vs ys) (x : Str) (u : Tok) : ∀ y, y ∈ vs → EqGives y (.str x u) (strE x y) := by
  intro y hy
  induction h with
  | nil => cases hy
  | cons z t _ ih =>
    rcases List.mem_cons.mp hy with rfl | hy
    · exact PyProof.Rows.eqGives_str _ _ _ _
    · exact ih hy
theorem W_tindex {l : Addr} {vs : List Value} {ys : List Str} {x : Str} {u : Tok} {Q : Value → Shared → Prop} (H : St B f N s) (hl : At s.heap l (IsTupO vs)) (hi : StrsAre vs ys) (j : Nat) (hj : ys.idxOf x = j) (hm : x ∈ ys) (h : ∀ t s', St B f N s' → Q (.int (j : Nat) t) s') :
    Wp prog w A (call (.builtin "tuple.index") [.ref l, .str x u]) Q s := by
  obtain ⟨o, ho, n, rfl⟩ := hl
  obtain ⟨h1, h2⟩ := StrsAre.get hi
  have hlt : j < ys.length := by rw [← hj]; exact List.idxOf_lt_length_of_mem hm
  have hget : ys[j] = x := by subst hj; simp
  refine ⟨call_meets PySem.F.slot_tuple_index ⟨_, ho, rfl⟩ PySem.F.entry_tuple_index (PySem.F.args_tuple_index_2 _ _) (tuple_index l vs.toArray n (.str x u) (strE x) (fun y hy => strE_gives hi x u y (by simpa using hy)) j (by simpa [h1] using hlt) ?_ ?_) ⟨ho, h _ _ (H.tok _)⟩⟩
  · obtain ⟨t, e⟩ := h2 j (by lia) hlt
    simp [e, strE, hget]
  · intro m hm1 hm2
    have hm3 : m < vs.length := by simpa using hm1
    obtain ⟨t, e⟩ := h2 m hm3 (by lia)
    have : ys[m]'(by lia) ≠ x := by
      intro q
      have := List.not_of_lt_findIdx (xs := ys) (p := (· == x)) (i := m) (by show m < ys.idxOf x; rw [hj]; exact hm2)
      simp [q] at this
    simp [e, strE, this]
theorem W_lindex {l : Addr} {vs : List Value} {ys : List Str} {x : Str} {u : Tok} {Q : Value → Shared → Prop} (H : St B f N s) (hl : At s.heap l (IsLst vs)) (hi : StrsAre vs ys) (j : Nat) (hj : ys.idxOf x = j) (hm : x ∈ ys) (hs : ys.length < 100000) (h : ∀ t s', St B f N s' → Q (.int (j : Nat) t) s') :
    Wp prog w A (call (.builtin "list.index") [.ref l, .str x u]) Q s := by
  obtain ⟨o, ho, n, rfl⟩ := hl
  obtain ⟨h1, h2⟩ := StrsAre.get hi
  have hlt : j < ys.length := by rw [← hj]; exact List.idxOf_lt_length_of_mem hm
  have hget : ys[j] = x := by subst hj; simp
  refine ⟨call_meets PySem.F.slot_list_index ⟨_, ho, rfl⟩ PySem.F.entry_list_index (PySem.F.args_list_index_2 _ _) (list_index l vs.toArray n (.str x u) (strE x) (fun y hy => strE_gives hi x u y (by simpa using hy)) j (by simpa [h1] using hlt) (by lia) ?_ ?_) ⟨ho, h _ _ (H.tok _)⟩⟩
  · obtain ⟨t, e⟩ := h2 j (by lia) hlt
    simp [e, strE, hget]
  · intro m hm1 hm2
    have hm3 : m < vs.length := by simpa using hm1
    obtain ⟨t, e⟩ := h2 m hm3 (by lia)
    have : ys[m]'(by lia) ≠ x := by
      intro q
      have := List.not_of_lt_findIdx (xs := ys) (p := (· == x)) (i := m) (by show m < ys.idxOf x; rw [hj]; exact hm2)
      simp [q] at this
    simp [e, strE, this]
theorem W_iadd {a b : Int} {t u : Tok} {Q : Value → Shared → Prop} (H : St B f N s) (h : ∀ t s', St B f N s' → Q (.int (a + b) t) s') : Wp prog w A (inplaceOp .Add (.int a t) (.int b u)) Q s := ⟨PyProof.Rows.iadd_int (h _ _ (H.tok _))⟩
theorem W_lenL {a : Addr} {vs : List Value} {Q : Value → Shared → Prop} (H : St B f N s) (ha : At s.heap a (IsLst vs)) (hn : vs.length < 100000) (h : ∀ t s', St B f N s' → Q (.int (vs.length : Nat) t) s') : Wp prog w A (call (.builtin "len") [.ref a]) Q s :=
  W_len H ha.lst (by simp; lia) (by simpa using h)
theorem W_itemL {value slice : Expr} {a : Addr} {vs : List Value} {i : Nat} {t : Tok} {x : Value} {Q : Value → Shared → Prop} (ha : At s.heap a (IsLst vs)) (hx : vs[i]? = some x) (hi : i < 100000) (h : Q x s)
    (hs : subscripted slice false (.ref a) (.int i t) = operate [.ref a, .int i t] (getItem (.ref a) (.int i t)) := by with_unfolding_all rfl) : Wp prog w A (subscriptTail value slice (.ref a) (.int i t)) Q s :=
  W_item ha.lst (by lia) (by lia) (by simpa using hx) h hs
theorem W_itemT {value slice : Expr} {a : Addr} {vs : List Value} {i : Nat} {t : Tok} {x : Value} {Q : Value → Shared → Prop} (ha : At s.heap a (IsTupO vs)) (hx : vs[i]? = some x) (hi : i < 100000) (h : Q x s)
    (hs : subscripted slice false (.ref a) (.int i t) = operate [.ref a, .int i t] (getItem (.ref a) (.int i t)) := by with_unfolding_all rfl) : Wp prog w A (subscriptTail value slice (.ref a) (.int i t)) Q s :=
  ⟨PyProof.Rows.item_tupleT ha.tup (by lia) (by lia) (j := i) (by
    have hl : i < vs.length := by
      rcases Nat.lt_or_ge i vs.length with q | q
      · exact q
      · rw [List.getElem?_eq_none q] at hx; cases hx
    have h0 : ¬ ((i : Int) < 0) := by lia
    simp [seqIndex?, hl, h0]) hx h hs⟩
theorem IsAttrs.handed {hd : Option (List Nm)} {av : Value} (h : IsAttrs prog w f hd av) : handedIn av = true := by
  cases hd with
  | none => cases h; rfl
  | some hs => obtain ⟨d, c, iv, a, rfl, h2, _⟩ := h; rfl
theorem IsNm.handed {n : Nm} {v : Value} (h : IsNm n v) : handedIn v = true := by
  cases n with
  | none => cases h; rfl
  | some x => obtain ⟨t, rfl⟩ := h; rfl
inductive AllMp (l : List (Str × Value)) : List (Str × Value) → Prop
  | nil : AllMp l []
  | cons {k : Str} {v : Value} {r : List (Str × Value)} : Mp l k = some v → AllMp l r → AllMp l ((k, v) :: r)
theorem AllMp.mp {l l' : List (Str × Value)} (h : AllMp l l') {k : Str} {v : Value} (e : Mp l' k = some v) : Mp l k = some v := by
  induction h with
  | nil => cases e
  | @cons k' v' r hk _ ih =>
    by_cases q : k = k'
    · subst q; rw [Mp_hd] at e; cases e; exact hk
    · rw [Mp_skip (beq_eq_false_iff_ne.mpr q)] at e; exact ih e
theorem St.arrv (L : Addr) {l l' : List (Str × Value)} {M M' : Led} (H : St B f M s) (e : Ext (L, HasVars l) M M') (hs : Sel N ((L, HasVars l') :: M')) (h : AllMp l l') : St B f N s :=
  ((H.pull e).imp (P' := HasVars l') fun o ⟨es, ep, h1, h2, h3⟩ => ⟨es, ep, h1, h2, fun k v e => h3 k v (h.mp e)⟩).sel hs
end
end
section
open PySem
theorem partsL_app (op : Bool) : ∀ a b : List Plan, partsL op (a ++ b) = partsL op a ++ partsL op b
  | [], b => rfl
  | p :: r, b => by rw [List.cons_append, partsL, partsL, partsL_app op r b, List.append_assoc]
theorem partsL_one (op : Bool) (p : Plan) : partsL op [p] = parts op p := by rw [partsL, partsL, List.append_nil]
theorem clL_app (op : Bool) : ∀ a b : List Plan, clL op (a ++ b) = clL op a + clL op b
  | [], b => by rw [List.nil_append, clL, Nat.zero_add]
  | p :: r, b => by rw [List.cons_append, clL, clL, clL_app op r b, Nat.add_assoc]
theorem clL_one (op : Bool) (p : Plan) : clL op [p] = cl op p := by rw [clL, clL, Nat.add_zero]
theorem hnL_app (op : Bool) : ∀ a b : List Plan, hnL op (a ++ b) = (hnL op a || hnL op b)
  | [], b => by rw [List.nil_append, hnL, Bool.false_or]
  | p :: r, b => by rw [List.cons_append, hnL, hnL, hnL_app op r b, Bool.or_assoc]
theorem hnL_one (op : Bool) (p : Plan) : hnL op [p] = hn op p := by rw [hnL, hnL, Bool.or_false]
noncomputable def gsz : Nat → Nat
  | 0 => 1
  | n + 1 => 1 + 3 * gsz n
theorem OkPlan.up : ∀ {n : Nat} {p : Plan}, OkPlan n p → OkPlan (n + 1) p
  | 0, .nothing, _ => trivial
  | 0, .name, _ => trivial
  | 0, .row .., h => h
  | n + 1, .nothing, _ => trivial
  | n + 1, .name, _ => trivial
  | n + 1, .row .., h => h
  | n + 1, .tree k kids hd, h => ⟨h.1, h.2.1, fun p hp => OkPlan.up (h.2.2.1 p hp), h.2.2.2⟩
theorem clL_le (op : Bool) (b : Nat) : ∀ (kids : List Plan), (∀ p ∈ kids, cl op p ≤ b) → clL op kids ≤ kids.length * b
  | [], _ => by rw [clL]; exact Nat.zero_le _
  | p :: r, h => by
    rw [clL, List.length_cons, Nat.succ_mul]
    have h1 := h p (.head _)
    have h2 := clL_le op b r fun q hq => h q (.tail _ hq)
    lia
theorem cl_le (op : Bool) : ∀ (n : Nat) (p : Plan), OkPlan n p → cl op p ≤ 3 ^ (n + 1)
  | n, .nothing, _ => by rw [cl]; exact Nat.zero_le _
  | n, .name, _ => by rw [cl]; exact Nat.one_le_pow _ _ (by decide)
  | n, .row k its hd, h => by
    have : its.length ≤ 3 := by cases n <;> exact h.2.1
    rw [cl]
    calc its.length ≤ 3 ^ 1 := this
      _ ≤ 3 ^ (n + 1) := Nat.pow_le_pow_right (by decide) (by lia)
  | 0, .tree .., h => h.elim
  | n + 1, .tree k kids hd, h => by
    rw [cl]
    split
    · have h1 := clL_le op (3 ^ (n + 1)) kids fun p hp => cl_le op n p (h.2.2.1 p hp)
      calc clL op kids ≤ kids.length * 3 ^ (n + 1) := h1
        _ ≤ 3 * 3 ^ (n + 1) := Nat.mul_le_mul_right _ h.2.1
        _ = 3 ^ (n + 1 + 1) := by rw [Nat.pow_succ 3 (n + 1), Nat.mul_comm]
    · calc kids.length ≤ 3 ^ 1 := h.2.1
        _ ≤ 3 ^ (n + 1 + 1) := Nat.pow_le_pow_right (by decide) (by lia)
theorem leafL_len (base : Nm) : ∀ (ns : List Nm) (r : NR), (leafL base ns r).names.length = r.names.length + ns.length ∧ (leafL base ns r).number = r.number + ns.length ∧ (leafL base ns r).count = r.count
  | [], r => ⟨rfl, rfl, rfl⟩
  | n :: ns, r => by
    obtain ⟨h1, h2, h3⟩ := leafL_len base ns ⟨r.names ++ [leafName base n (r.number + 1) r.count], r.number + 1, r.count⟩
    rw [leafL]
    refine ⟨h1.trans ?_, h2.trans ?_, h3⟩
    · simp; lia
    · simp; lia
theorem leafL_app (base : Nm) : ∀ (a b : List Nm) (r : NR), leafL base (a ++ b) r = leafL base b (leafL base a r)
  | [], b, r => rfl
  | n :: ns, b, r => by rw [List.cons_append, leafL, leafL, leafL_app base ns b]
theorem OkHeads.len {m : Nat} {hd : Option (List Nm)} (h : OkHeads m hd) : (hd.getD (List.replicate m nm0)).length = m := by
  cases hd with
  | none => simp
  | some l => exact (h l rfl).1
theorem OkHeads.ok {m : Nat} {hd : Option (List Nm)} (h : OkHeads m hd) : ∀ n ∈ hd.getD (List.replicate m nm0), OkNm n := by
  intro n hn
  cases hd with
  | none =>
    have := List.eq_of_mem_replicate hn
    subst this
    intro x e; cases e; decide +kernel
  | some l => exact (h l rfl).2 n hn
noncomputable def Len (r r' : NR) (c : Nat) : Prop := r'.names.length = r.names.length + c ∧ r'.number = r.number + c ∧ r'.count = r.count
theorem tagStep_len {b : Nm → NR → NR} {c : Nat} (hb : ∀ base r, Len r (b base r) c) (cc : Nat) (base tag : Nm) (r : NR) : Len r (tagStep b cc base tag r) c := by
  unfold tagStep
  split
  · obtain ⟨h1, h2, h3⟩ := hb (jb base tag) ⟨r.names, 0, cc⟩
    exact ⟨h1, by dsimp only at *; lia, rfl⟩
  · exact hb base r
theorem extL_nil (op : Bool) (base : Nm) (r : NR) : extL op [] [] base r = r := by
  rw [extL]; intro p ps n ns h; cases h
theorem extL_len (op : Bool) : ∀ (ps : List Plan) (ns : List Nm) (base : Nm) (r : NR), ps.length = ns.length → (∀ p ∈ ps, ∀ base r, Len r (extB op p base r) (cl op p)) → Len r (extL op ps ns base r) (clL op ps)
  | [], [], base, r, _, _ => by rw [extL_nil, clL]; exact ⟨rfl, rfl, rfl⟩
  | p :: ps, n :: ns, base, r, hl, h => by
    rw [extL, clL]
    obtain ⟨a1, a2, a3⟩ := tagStep_len (fun base r => h p (.head _) base r) (cl op p) base n r
    obtain ⟨b1, b2, b3⟩ := extL_len op ps ns base (tagStep (extB op p) (cl op p) base n r) (by simpa using hl) fun q hq => h q (.tail _ hq)
    exact ⟨by lia, by lia, b3.trans a3⟩
theorem extB_len (op : Bool) : ∀ (n : Nat) (p : Plan), OkPlan n p → ∀ (base : Nm) (r : NR), Len r (extB op p base r) (cl op p)
  | n, .nothing, _, base, r => by rw [extB, cl]; exact ⟨rfl, rfl, rfl⟩
  | n, .name, _, base, r => by rw [extB, cl]; exact leafL_len base [nm0] r
  | n, .row k its hd, h, base, r => by
    have h4 : OkHeads its.length hd := by cases n <;> exact h.2.2.2
    rw [extB, cl]
    have := leafL_len base (hd.getD (List.replicate its.length nm0)) r
    rw [h4.len] at this
    exact this
  | 0, .tree .., h, _, _ => h.elim
  | n + 1, .tree k kids hd, h, base, r => by
    rw [extB, cl]
    split
    · exact extL_len op kids _ base r h.2.2.2.len.symm fun p hp => extB_len op n p (h.2.2.1 p hp)
    · have := leafL_len base (hd.getD (List.replicate kids.length nm0)) r
      rw [h.2.2.2.len] at this
      exact this
theorem ext_len (op : Bool) {n : Nat} {p : Plan} (h : OkPlan n p) (base tag : Nm) (r : NR) : Len r (ext op p base tag r) (cl op p) := tagStep_len (extB_len op n p h) _ _ _ _
theorem extL_app (op : Bool) : ∀ (ps qs : List Plan) (ns ms : List Nm) (base : Nm) (r : NR), ps.length = ns.length → extL op (ps ++ qs) (ns ++ ms) base r = extL op qs ms base (extL op ps ns base r)
  | [], qs, [], ms, base, r, _ => by rw [List.nil_append, List.nil_append, extL_nil]
  | p :: ps, qs, n :: ns, ms, base, r, h => by rw [List.cons_append, List.cons_append, extL, extL, extL_app op ps qs ns ms base _ (by simpa using h)]
theorem extL_one (op : Bool) (p : Plan) (n base : Nm) (r : NR) : extL op [p] [n] base r = ext op p base n r := by rw [extL, extL_nil]; rfl
theorem rowsOf_len (k : Kd) (base : Nm) (around : List Str) : ∀ (is : List It) (ns : List Nm), is.length = ns.length → (rowsOf k base around is ns).length = is.length
  | [], [], _ => rfl
  | i :: is, n :: ns, h => by rw [rowsOf, List.length_cons, List.length_cons, rowsOf_len k base around is ns (by simpa using h)]
theorem rowsOf_get (k : Kd) (base : Nm) (around : List Str) : ∀ (is : List It) (ns : List Nm) (j : Nat) (i : It) (n : Nm), is[j]? = some i → ns[j]? = some n → (rowsOf k base around is ns)[j]? = some ⟨k, i, n, base, around⟩
  | i :: is, n :: ns, 0, _, _, h1, h2 => by simp at h1 h2; subst h1 h2; rfl
  | i :: is, n :: ns, j + 1, _, _, h1, h2 => by
    rw [rowsOf]
    simpa using rowsOf_get k base around is ns j _ _ (by simpa using h1) (by simpa using h2)
  | [], _, _, _, _, h1, _ => by simp at h1
  | _ :: _, [], _, _, _, _, h2 => by simp at h2
theorem sprL_nil (op : Bool) (base : Nm) (around : List Str) (i n : Nat) : sprL op [] [] base around i n = [] := by
  rw [sprL]; intro p ps h hs e; cases e
noncomputable def sprOne (op : Bool) (p : Plan) (h base : Nm) (around : List Str) (spot n : Nat) : List Row := if h = nm0 then spr op p base around n else spr op p (jb base h) (around ++ [idOf n around.length spot]) n
theorem sprL_cons (op : Bool) (p : Plan) (ps : List Plan) (h : Nm) (hs : List Nm) (base : Nm) (around : List Str) (i n : Nat) : sprL op (p :: ps) (h :: hs) base around i n = sprOne op p h base around i n ++ sprL op ps hs base around (i + 1) (n + (sprOne op p h base around i n).length) := by
  rw [sprL]; rfl
theorem sprL_app (op : Bool) : ∀ (ps qs : List Plan) (hs ms : List Nm) (base : Nm) (around : List Str) (i n : Nat), ps.length = hs.length →
    sprL op (ps ++ qs) (hs ++ ms) base around i n = sprL op ps hs base around i n ++ sprL op qs ms base around (i + ps.length) (n + (sprL op ps hs base around i n).length) := by
  intro ps
  induction ps with
  | nil =>
    intro qs hs ms base around i n hl
    cases hs with
    | nil => rw [sprL_nil]; rfl
    | cons h hs => simp at hl
  | cons p ps ih =>
    intro qs hs ms base around i n hl
    cases hs with
    | nil => simp at hl
    | cons h hs =>
    rw [List.cons_append, List.cons_append, sprL_cons, sprL_cons, ih qs hs ms base around (i + 1) _ (by simpa using hl)]
    rw [List.append_assoc, List.length_append, List.length_cons]
    rw [show i + 1 + ps.length = i + (ps.length + 1) by lia, show ∀ a b : Nat, n + a + b = n + (a + b) from fun a b => Nat.add_assoc ..]
theorem sprL_one (op : Bool) (p : Plan) (h base : Nm) (around : List Str) (i n : Nat) : sprL op [p] [h] base around i n = sprOne op p h base around i n := by rw [sprL_cons, sprL_nil, List.append_nil]
theorem sprL_len (op : Bool) : ∀ (ps : List Plan) (hs : List Nm) (base : Nm) (around : List Str) (i n : Nat), ps.length = hs.length → (∀ p ∈ ps, ∀ base around n, (spr op p base around n).length = cl op p) → (sprL op ps hs base around i n).length = clL op ps := by
  intro ps
  induction ps with
  | nil =>
    intro hs base around i n hl
    cases hs with
    | nil => intro _; rw [sprL_nil, clL]; rfl
    | cons h hs => simp at hl
  | cons p ps ih =>
    intro hs base around i n hl hp
    cases hs with
    | nil => simp at hl
    | cons h hs =>
    rw [sprL_cons, clL, List.length_append, ih hs base around _ _ (by simpa using hl) fun q hq => hp q (.tail _ hq)]
    congr 1
    unfold sprOne
    split <;> exact hp p (.head _) _ _ _
theorem spr_len (op : Bool) : ∀ (n : Nat) (p : Plan), OkPlan n p → ∀ (base : Nm) (around : List Str) (m : Nat), (spr op p base around m).length = cl op p
  | n, .nothing, _, base, around, m => by rw [spr, cl]; rfl
  | n, .name, _, base, around, m => by rw [spr, cl]; rfl
  | n, .row k its hd, h, base, around, m => by
    have h4 : OkHeads its.length hd := by cases n <;> exact h.2.2.2
    rw [spr, cl, rowsOf_len _ _ _ _ _ h4.len.symm]
  | 0, .tree .., h, _, _, _ => h.elim
  | n + 1, .tree k kids hd, h, base, around, m => by
    rw [spr, cl]
    split
    · exact sprL_len op kids _ base around 0 m h.2.2.2.len.symm fun p hp => spr_len op n p (h.2.2.1 p hp)
    · rw [rowsOf_len _ _ _ _ _ (by rw [List.length_map]; exact h.2.2.2.len.symm), List.length_map]
theorem kdsL_app (op : Bool) : ∀ a b : List Plan, kdsL op (a ++ b) = kdsL op a ++ kdsL op b
  | [], b => by rw [List.nil_append, kdsL]; rfl
  | p :: r, b => by rw [List.cons_append, kdsL, kdsL, kdsL_app op r b, List.append_assoc]
theorem kdsL_one (op : Bool) (p : Plan) : kdsL op [p] = kds op p := by rw [kdsL, kdsL, List.append_nil]
theorem kdsL_le (op : Bool) (b : Nat) : ∀ (kids : List Plan), (∀ p ∈ kids, (kds op p).length ≤ b) → (kdsL op kids).length ≤ kids.length * b
  | [], _ => by rw [kdsL]; exact Nat.zero_le _
  | p :: r, h => by
    rw [kdsL, List.length_append, List.length_cons, Nat.succ_mul]
    have h1 := h p (.head _)
    have h2 := kdsL_le op b r fun q hq => h q (.tail _ hq)
    lia
noncomputable def Kd.norm : Kd → Kd
  | .pl => .ls
  | .lg => .lg
  | .it => .it
  | .ch => .ch
  | .ls => .ls
  | .ex => .ex
  | .nu => .nu
  | .sy => .sy
theorem kds_tree (op : Bool) (k : Kd) (kids : List Plan) (hd : Option (List Nm)) : kds op (.tree k kids hd) = if op then kdsL op kids else [k.norm] := by
  cases k <;> cases op <;> rfl
theorem kds_le (op : Bool) : ∀ (n : Nat) (p : Plan), OkPlan n p → (kds op p).length ≤ 3 ^ n
  | n, .nothing, _ => by rw [kds]; exact Nat.zero_le _
  | n, .name, _ => by rw [kds]; exact Nat.one_le_pow _ _ (by decide)
  | n, .row k its hd, h => by rw [kds]; exact Nat.one_le_pow _ _ (by decide)
  | 0, .tree .., h => h.elim
  | n + 1, .tree k kids hd, h => by
    rw [kds_tree]
    split
    · have h1 := kdsL_le op (3 ^ n) kids fun p hp => kds_le op n p (h.2.2.1 p hp)
      calc (kdsL op kids).length ≤ kids.length * 3 ^ n := h1
        _ ≤ 3 * 3 ^ n := Nat.mul_le_mul_right _ h.2.1
        _ = 3 ^ (n + 1) := by rw [Nat.pow_succ 3 n, Nat.mul_comm]
    · exact Nat.one_le_pow _ _ (by decide)
theorem hnL_any (op : Bool) : ∀ kids : List Plan, hnL op kids = (kids.map (hn op)).any id
  | [] => by rw [hnL]; rfl
  | p :: r => by rw [hnL, hnL_any op r]; rfl
noncomputable def topOf (spot : Nat) : Str := Str.ofString "top" ++ nt spot
noncomputable def rowsOne (op : Bool) (x : Nm × Plan) (spot n : Nat) : List Row := spr op x.2 x.1 (if x.1 = nm0 then [] else [topOf spot]) n
noncomputable def allRows (op : Bool) : List (Nm × Plan) → Nat → Nat → List Row
  | [], _, _ => []
  | x :: xs, spot, n => rowsOne op x spot n ++ allRows op xs (spot + 1) (n + (rowsOne op x spot n).length)
noncomputable def allKds (op : Bool) (xs : List (Nm × Plan)) : List Kd := kdsL op (xs.map (·.2))
theorem allRows_app (op : Bool) : ∀ (xs ys : List (Nm × Plan)) (i n : Nat), allRows op (xs ++ ys) i n = allRows op xs i n ++ allRows op ys (i + xs.length) (n + (allRows op xs i n).length)
  | [], ys, i, n => by simp [allRows]
  | x :: xs, ys, i, n => by
    rw [List.cons_append, allRows, allRows, allRows_app op xs ys, List.append_assoc, List.length_append, List.length_cons]
    rw [show i + 1 + xs.length = i + (xs.length + 1) by lia, show ∀ a b : Nat, n + a + b = n + (a + b) from fun a b => Nat.add_assoc ..]
theorem allRows_one (op : Bool) (x : Nm × Plan) (i n : Nat) : allRows op [x] i n = rowsOne op x i n := by simp [allRows]
theorem rowsOne_len (op : Bool) {x : Nm × Plan} (h : OkPlan 2 x.2) (i n : Nat) : (rowsOne op x i n).length = cl op x.2 := spr_len op 2 x.2 h _ _ _
theorem allRows_le (op : Bool) : ∀ (xs : List (Nm × Plan)) (i n : Nat), (∀ x ∈ xs, OkPlan 2 x.2) → (allRows op xs i n).length ≤ xs.length * 27
  | [], i, n, _ => by simp [allRows]
  | x :: xs, i, n, h => by
    rw [allRows, List.length_append, List.length_cons, Nat.succ_mul, rowsOne_len op (h x (.head _))]
    have h1 := cl_le op 2 x.2 (h x (.head _))
    have h2 := allRows_le op xs (i + 1) (n + cl op x.2) fun y hy => h y (.tail _ hy)
    lia
theorem allKds_le (op : Bool) (xs : List (Nm × Plan)) (h : ∀ x ∈ xs, OkPlan 2 x.2) : (allKds op xs).length ≤ xs.length * 9 := by
  have := kdsL_le op 9 (xs.map (·.2)) fun p hp => by
    obtain ⟨x, hx, rfl⟩ := List.mem_map.mp hp
    exact kds_le op 2 x.2 (h x hx)
  rwa [List.length_map] at this
/-! the plain law -/
noncomputable def cs (x : Str) : List Nat := x.cps.toList
theorem cs_app (x y : Str) : cs (x ++ y) = cs x ++ cs y := by
  show (x.cps ++ y.cps).toList = _
  rw [Array.toList_append]; rfl
noncomputable def valD (l : List Nat) : Nat := l.foldl (fun v d => v * 10 + (d - 48)) 0
theorem nt_val : ∀ a < 200, valD (cs (nt a)) = a := by decide +kernel
theorem nt_no : ∀ a < 200, 47 ∉ cs (nt a) := by decide +kernel
theorem split47 : ∀ {A A' X X' : List Nat}, 47 ∉ A → 47 ∉ A' → A ++ 47 :: X = A' ++ 47 :: X' → A = A' ∧ X = X'
  | [], [], X, X', _, _, h => ⟨rfl, by injection h⟩
  | [], b :: A', X, X', _, h2, h => by
    injection h with h _
    exact absurd (h ▸ List.mem_cons_self) h2
  | a :: A, [], X, X', h1, _, h => by
    injection h with h _
    exact absurd (h ▸ List.mem_cons_self) h1
  | a :: A, b :: A', X, X', h1, h2, h => by
    injection h with h h'
    obtain ⟨q, r⟩ := split47 (fun e => h1 (.tail _ e)) (fun e => h2 (.tail _ e)) h'
    exact ⟨by rw [h, q], r⟩
theorem cs_slash : cs (Str.ofString "/") = [47] := by decide +kernel
theorem cs_id (a b c : Nat) : cs (idOf a b c) = cs (nt a) ++ 47 :: (cs (nt b) ++ 47 :: cs (nt c)) := by
  rw [idOf, cs_app, cs_app, cs_app, cs_app, cs_slash]
  simp [List.append_assoc]
theorem id_inj {a b c a' b' c' : Nat} (ha : a < 200) (ha' : a' < 200) (hb : b < 200) (hb' : b' < 200) (h : idOf a b c = idOf a' b' c') : a = a' ∧ b = b' := by
  have h := congrArg cs h
  rw [cs_id, cs_id] at h
  obtain ⟨h1, h2⟩ := split47 (nt_no a ha) (nt_no a' ha') h
  obtain ⟨h3, h4⟩ := split47 (nt_no b hb) (nt_no b' hb') h2
  exact ⟨by rw [← nt_val a ha, h1, nt_val a' ha'], by rw [← nt_val b hb, h3, nt_val b' hb']⟩
theorem top_inj {s s' : Nat} (h1 : s < 200) (h2 : s' < 200) (h : topOf s = topOf s') : s = s' := by
  have h := congrArg cs h
  rw [topOf, topOf, cs_app, cs_app] at h
  have := List.append_cancel_left h
  rw [← nt_val s h1, this, nt_val s' h2]
theorem top_id {s a b c : Nat} (h1 : s < 200) : topOf s ≠ idOf a b c := by
  intro h
  have h := congrArg cs h
  rw [cs_id, topOf, cs_app] at h
  have h47 : 47 ∈ cs (Str.ofString "top") ++ cs (nt s) := by rw [h]; simp
  rcases List.mem_append.mp h47 with q | q
  · revert q; decide +kernel
  · exact nt_no s h1 q
noncomputable def IdB (x : Str) (P : Nat → Nat → Prop) : Prop := (∃ s, s < 200 ∧ x = topOf s) ∨ ∃ a d s, a < 200 ∧ d < 200 ∧ x = idOf a d s ∧ P a d
theorem IdB.imp {x : Str} {P Q : Nat → Nat → Prop} (h : IdB x P) (hi : ∀ a d, P a d → Q a d) : IdB x Q := by
  rcases h with h | ⟨a, d, s, h1, h2, h3, h4⟩
  · exact .inl h
  · exact .inr ⟨a, d, s, h1, h2, h3, hi _ _ h4⟩
theorem IdB.ne {x : Str} {P : Nat → Nat → Prop} {a d s : Nat} (h : IdB x P) (ha : a < 200) (hd : d < 200) (hn : ¬ P a d) : x ≠ idOf a d s := by
  rintro rfl
  rcases h with ⟨s', h1, h2⟩ | ⟨a', d', s', h1, h2, h3, h4⟩
  · exact top_id h1 h2.symm
  · obtain ⟨rfl, rfl⟩ := id_inj ha h1 hd h2 h3
    exact hn h4
/-- the names by the law's reading -/
noncomputable def nms (R : List Row) (rows : List Row) (m : Nat) : List Nm := (rows.zipIdx m).map fun x => lawName R x.1 x.2
theorem nms_app (R a b : List Row) (m : Nat) : nms R (a ++ b) m = nms R a m ++ nms R b (m + a.length) := by
  rw [nms, List.zipIdx_append, List.map_append]; rfl
noncomputable def Grp (R : List Row) (around : List Str) (a c : Nat) : Prop := ∀ last, around.getLast? = some last → ∀ k, (∃ r, R[k]? = some r ∧ last ∈ r.around) ↔ a ≤ k ∧ k < a + c
theorem filter_range (a c : Nat) (P : Nat → Bool) : ∀ (N : Nat), a + c ≤ N → (∀ k, k < N → (P k = true ↔ a ≤ k ∧ k < a + c)) → (List.range N).filter P = List.range' a c := by
  intro N hN h
  have e : List.range N = List.range' 0 a ++ (List.range' a c ++ List.range' (a + c) (N - (a + c))) := by
    have e1 : List.range' a c ++ List.range' (a + c) (N - (a + c)) = List.range' a (c + (N - (a + c))) := List.range'_append_1
    have e2 : List.range' 0 a ++ List.range' (0 + a) (c + (N - (a + c))) = List.range' 0 (a + (c + (N - (a + c)))) := List.range'_append_1
    rw [Nat.zero_add] at e2
    rw [e1, e2, List.range_eq_range']
    congr 1; lia
  rw [e, List.filter_append, List.filter_append]
  rw [List.filter_eq_nil_iff.mpr (fun k hk => by
    have := List.mem_range'_1.mp hk
    intro q; have := (h k (by lia)).mp q; lia)]
  rw [List.filter_eq_self.mpr (fun k hk => by
    have := List.mem_range'_1.mp hk
    exact (h k (by lia)).mpr ⟨by lia, by lia⟩)]
  rw [List.filter_eq_nil_iff.mpr (fun k hk => by
    have := List.mem_range'_1.mp hk
    intro q; have := (h k (by lia)).mp q; lia)]
  simp
theorem idxOf_range' (a c i : Nat) (h1 : a ≤ i) (h2 : i < a + c) : (List.range' a c).idxOf i = i - a := by
  induction c generalizing a with
  | zero => lia
  | succ c ih =>
    rw [List.range'_succ, List.idxOf_cons]
    by_cases q : a = i
    · subst q; simp
    · have : (a == i) = false := by simpa using q
      rw [this]
      simp only [cond_false]
      rw [ih (a + 1) (by lia) (by lia)]
      lia
theorem leaf_eq {R : List Row} {r : Row} {i a c : Nat} (hR : R[i]? = some r) (hb : r.base ≠ nm0 → r.around ≠ []) (hg : Grp R r.around a c) : lawName R r i = leafName r.base r.own (i - a + 1) c := by
  unfold lawName leafName
  by_cases h1 : r.own ≠ nm0
  · rw [if_pos h1, if_pos h1]
  · rw [if_neg h1, if_neg h1]
    by_cases h2 : r.base = nm0
    · rw [if_pos h2, if_pos (.inl h2), h2]
    · rw [if_neg h2]
      obtain ⟨last, hl⟩ : ∃ x, r.around.getLast? = some x := ⟨_, List.getLast?_eq_some_getLast (hb h2)⟩
      have hiff := hg last hl
      have hgl : r.around.getLast?.getD e0 = last := by rw [hl]; rfl
      have hmem : last ∈ r.around := List.mem_of_getLast? hl
      have hi := (hiff i).mp ⟨r, hR, hmem⟩
      have hlen : ∀ k, a ≤ k → k < a + c → k < R.length := by
        intro k k1 k2
        obtain ⟨q, hq, _⟩ := (hiff k).mpr ⟨k1, k2⟩
        exact (List.getElem?_eq_some_iff.mp hq).1
      have hN : a + c ≤ R.length := by have := hlen (a + c - 1) (by lia) (by lia); lia
      have hf : (List.range R.length).filter (fun k => (R[k]?).any fun q => q.around.any (· == r.around.getLast?.getD e0)) = List.range' a c := by
        refine filter_range a c _ _ hN fun k hk => ?_
        rw [← hiff k, hgl]
        cases hq : R[k]? with
        | none => simp
        | some q => simp
      simp only [hf, List.length_range']
      rw [idxOf_range' a c i hi.1 hi.2]
      by_cases h3 : c = 1
      · rw [if_pos h3, if_pos (.inr h3)]
      · rw [if_neg h3, if_neg (fun e => e.elim h2 h3)]
noncomputable def SprAr (rows : List Row) (around : List Str) (m : Nat) : Prop := ∀ j r, rows[j]? = some r → ∃ e, r.around = around ++ e ∧ ∀ x ∈ e, ∃ a d s, a < 200 ∧ d < 200 ∧ x = idOf a d s ∧ m ≤ a ∧ a ≤ m + j ∧ around.length ≤ d
theorem SprAr.nil {around : List Str} {m : Nat} : SprAr [] around m := fun j r h => by simp at h
theorem SprAr.app {A B : List Row} {around : List Str} {m : Nat} (h1 : SprAr A around m) (h2 : SprAr B around (m + A.length)) : SprAr (A ++ B) around m := by
  intro j r h
  rcases Nat.lt_or_ge j A.length with q | q
  · rw [List.getElem?_append_left q] at h; exact h1 j r h
  · rw [List.getElem?_append_right q] at h
    obtain ⟨e, h3, h4⟩ := h2 _ r h
    refine ⟨e, h3, fun x hx => ?_⟩
    obtain ⟨a, d, s, k1, k2, k3, k4, k5, k6⟩ := h4 x hx
    exact ⟨a, d, s, k1, k2, k3, by lia, by lia, k6⟩
theorem rowsOf_ar (k : Kd) (base : Nm) (around : List Str) (m : Nat) : ∀ (is : List It) (ns : List Nm), SprAr (rowsOf k base around is ns) around m := by
  have : ∀ (is : List It) (ns : List Nm), ∀ r ∈ rowsOf k base around is ns, r.around = around := by
    intro is
    induction is with
    | nil => intro ns r h; rw [rowsOf] at h; cases h; intro i is n ns e; cases e
    | cons i is ih =>
      intro ns r h
      cases ns with
      | nil => rw [rowsOf] at h; cases h; intro i is n ns _ e; cases e
      | cons n ns =>
        rw [rowsOf] at h
        rcases List.mem_cons.mp h with rfl | h
        · rfl
        · exact ih ns r h
  intro is ns j r h
  exact ⟨[], by rw [List.append_nil]; exact this is ns r (List.mem_of_getElem? h), fun x hx => nomatch hx⟩
theorem sprOne_len (op : Bool) {n : Nat} {p : Plan} (h : OkPlan n p) (hd base : Nm) (around : List Str) (i m : Nat) : (sprOne op p hd base around i m).length = cl op p := by
  unfold sprOne
  split <;> exact spr_len op n p h _ _ _
noncomputable def ArP (op : Bool) (n : Nat) (p : Plan) : Prop := ∀ base around m, m + cl op p ≤ 200 → around.length + n ≤ 100 → SprAr (spr op p base around m) around m
theorem sprOne_ar (op : Bool) {n : Nat} {p : Plan} (hok : OkPlan n p) (ha : ArP op n p) (hd base : Nm) (around : List Str) (i m : Nat) (h1 : m + cl op p ≤ 200) (h2 : around.length + (n + 1) ≤ 100) : SprAr (sprOne op p hd base around i m) around m := by
  unfold sprOne
  split
  · exact ha _ _ _ h1 (by lia)
  · intro j r h
    have hj : j < cl op p := by
      have := (List.getElem?_eq_some_iff.mp h).1
      rwa [spr_len op n p hok] at this
    obtain ⟨e, h3, h4⟩ := ha _ (around ++ [idOf m around.length i]) m h1 (by rw [List.length_append, List.length_singleton]; lia) j r h
    refine ⟨idOf m around.length i :: e, by rw [h3, List.append_assoc]; rfl, fun x hx => ?_⟩
    rcases List.mem_cons.mp hx with rfl | hx
    · exact ⟨m, around.length, i, by lia, by lia, rfl, Nat.le_refl _, by lia, Nat.le_refl _⟩
    · obtain ⟨a, d, s, k1, k2, k3, k4, k5, k6⟩ := h4 x hx
      rw [List.length_append, List.length_singleton] at k6
      exact ⟨a, d, s, k1, k2, k3, k4, k5, by lia⟩
theorem sprL_ar (op : Bool) (n : Nat) : ∀ (ps : List Plan) (hs : List Nm) (base : Nm) (around : List Str) (i m : Nat), ps.length = hs.length → (∀ p ∈ ps, OkPlan n p ∧ ArP op n p) → m + clL op ps ≤ 200 → around.length + (n + 1) ≤ 100 → SprAr (sprL op ps hs base around i m) around m
  | [], [], base, around, i, m, _, _, _, _ => by rw [sprL_nil]; exact SprAr.nil
  | p :: ps, h :: hs, base, around, i, m, hl, hp, h1, h2 => by
    rw [clL] at h1
    obtain ⟨hp1, hp2⟩ := hp p (.head _)
    rw [sprL_cons]
    refine (sprOne_ar op hp1 hp2 h base around i m (by lia) h2).app ?_
    rw [sprOne_len op hp1]
    exact sprL_ar op n ps hs base around (i + 1) _ (by simpa using hl) (fun q hq => hp q (.tail _ hq)) (by lia) h2
theorem spr_ar (op : Bool) : ∀ (n : Nat) (p : Plan), OkPlan n p → ArP op n p
  | n, .nothing, _ => fun base around m _ _ => by rw [spr]; exact SprAr.nil
  | n, .name, _ => fun base around m _ _ => by
    rw [spr]
    intro j r h
    refine ⟨[], ?_, fun x hx => nomatch hx⟩
    rw [List.append_nil]
    cases j with
    | zero => simp at h; rw [← h]
    | succ j => simp at h
  | n, .row k its hd, _ => fun base around m _ _ => by rw [spr]; exact rowsOf_ar _ _ _ _ _ _
  | 0, .tree .., h => h.elim
  | n + 1, .tree k kids hd, h => fun base around m h1 h2 => by
    rw [cl] at h1
    rw [spr]
    split
    · rename_i hop
      rw [if_pos hop] at h1
      exact sprL_ar op n kids _ base around 0 m h.2.2.2.len.symm (fun p hp => ⟨h.2.2.1 p hp, spr_ar op n p (h.2.2.1 p hp)⟩) h1 h2
    · exact rowsOf_ar _ _ _ _ _ _
structure Ctx (R : List Row) (around : List Str) (m len : Nat) : Prop where
  bef : ∀ k r, k < m → R[k]? = some r → ∀ x ∈ r.around, IdB x (fun a _ => a < m)
  aft : ∀ k r, m + len ≤ k → R[k]? = some r → ∀ x ∈ r.around, x ∈ around ∨ IdB x (fun a _ => m + len ≤ a)
  anc : ∀ x ∈ around, IdB x (fun a d => d < around.length ∧ a ≤ m)
theorem get_mid {R pre A post : List Row} {m k : Nat} {r : Row} (hR : R = pre ++ A ++ post) (hm : pre.length = m) (h1 : m ≤ k) (h2 : k < m + A.length) (h : R[k]? = some r) : A[k - m]? = some r := by
  rw [hR, List.append_assoc, List.getElem?_append_right (by lia), hm, List.getElem?_append_left (by lia)] at h
  exact h
theorem leafs_eq {R : List Row} {k : Kd} {base : Nm} {around : List Str} : ∀ (its : List It) (ns : List Nm) (m : Nat) (r : NR) (pre post : List Row), its.length = ns.length → R = pre ++ rowsOf k base around its ns ++ post → pre.length = m → (base ≠ nm0 → around ≠ []) → (0 < its.length → Grp R around (m - r.number) r.count) → r.number ≤ m →
    (leafL base ns r).names = r.names ++ nms R (rowsOf k base around its ns) m := by
  intro its
  induction its with
  | nil =>
    intro ns m r pre post hl
    cases ns with
    | nil =>
      intros
      rw [leafL, rowsOf]
      · simp [nms]
      · intro i is n ns e; cases e
    | cons n ns => simp at hl
  | cons i is ih =>
    intro ns m r pre post hl hR hm hb hg hn
    cases ns with
    | nil => simp at hl
    | cons n ns =>
    rw [leafL, rowsOf]
    have hR' : R = (pre ++ [⟨k, i, n, base, around⟩]) ++ rowsOf k base around is ns ++ post := by
      rw [hR, rowsOf]; simp
    have hg' := hg (by simp)
    rw [ih ns (m + 1) _ _ post (by simpa using hl) hR' (by simp [hm]) hb (fun _ => by
      show Grp R around (m + 1 - (r.number + 1)) r.count
      rwa [show m + 1 - (r.number + 1) = m - r.number by lia]) (by show r.number + 1 ≤ m + 1; lia)]
    have hget : R[m]? = some ⟨k, i, n, base, around⟩ := by
      rw [hR', List.append_assoc, List.append_assoc, List.getElem?_append_right (by lia), hm]
      simp
    have := leaf_eq (i := m) hget hb hg'
    rw [show m - (m - r.number) + 1 = r.number + 1 by lia] at this
    show r.names ++ [leafName base n (r.number + 1) r.count] ++ nms R (rowsOf k base around is ns) (m + 1) = _
    rw [List.append_assoc]
    congr 1
    show [leafName base n (r.number + 1) r.count] ++ nms R (rowsOf k base around is ns) (m + 1) = lawName R ⟨k, i, n, base, around⟩ m :: nms R (rowsOf k base around is ns) (m + 1)
    rw [this]; rfl
theorem nms_nil (R : List Row) (m : Nat) : nms R [] m = [] := rfl
theorem of_len0 {R : List Row} {rows : List Row} {m : Nat} (h : rows.length = 0) : nms R rows m = [] := by
  cases rows with
  | nil => rfl
  | cons a b => simp at h
noncomputable def MainP (op : Bool) (n : Nat) (p : Plan) : Prop := ∀ (R pre post : List Row) (base : Nm) (around : List Str) (m : Nat) (r : NR), R = pre ++ spr op p base around m ++ post → pre.length = m → (base ≠ nm0 → around ≠ []) → (0 < cl op p → Grp R around (m - r.number) r.count) → r.number ≤ m → Ctx R around m (cl op p) → m + cl op p ≤ 150 → around.length + n ≤ 100 →
  (extB op p base r).names = r.names ++ nms R (spr op p base around m) m
theorem Ctx.tag {R : List Row} {around : List Str} {m len i : Nat} (h : Ctx R around m len) (hm : m < 200) (ha : around.length < 200) : Ctx R (around ++ [idOf m around.length i]) m len := by
  refine ⟨h.bef, fun k r hk hr x hx => ?_, fun x hx => ?_⟩
  · rcases h.aft k r hk hr x hx with q | q
    · exact .inl (List.mem_append_left _ q)
    · exact .inr q
  · rw [List.length_append, List.length_singleton]
    rcases List.mem_append.mp hx with q | q
    · exact (h.anc x q).imp fun a d e => ⟨by lia, e.2⟩
    · rw [List.mem_singleton] at q
      exact .inr ⟨m, around.length, i, hm, ha, q, by lia, Nat.le_refl _⟩
theorem Ctx.grp {R pre A post : List Row} {around : List Str} {m i : Nat} (h : Ctx R around m A.length) (hR : R = pre ++ A ++ post) (hp : pre.length = m) (hm : m < 200) (ha : around.length < 200) (h0 : 0 < A.length) (hA : SprAr A (around ++ [idOf m around.length i]) m) : Grp R (around ++ [idOf m around.length i]) m A.length := by
  intro last hl k
  rw [List.getLast?_append, List.getLast?_singleton] at hl
  injection hl with hl
  subst hl
  constructor
  · rintro ⟨r, hr, hx⟩
    refine ⟨?_, ?_⟩
    · refine Nat.le_of_not_lt fun q => ?_
      exact (h.bef k r q hr _ hx).ne hm ha (by lia) rfl
    · refine Nat.lt_of_not_le fun q => ?_
      rcases h.aft k r q hr _ hx with z | z
      · exact (h.anc _ z).ne hm ha (by lia) rfl
      · exact z.ne hm ha (by lia) rfl
  · rintro ⟨h1, h2⟩
    have hk : k < R.length := by
      have := congrArg List.length hR
      rw [List.length_append, List.length_append] at this
      lia
    have hg := get_mid hR hp h1 h2 (List.getElem?_eq_getElem hk)
    obtain ⟨e, he, _⟩ := hA _ _ hg
    exact ⟨R[k], List.getElem?_eq_getElem hk, by rw [he]; simp⟩
theorem mainOne (op : Bool) {n : Nat} {p : Plan} (hok : OkPlan n p) (hp : MainP op n p) : ∀ (R pre post : List Row) (h base : Nm) (around : List Str) (i m : Nat) (r : NR), R = pre ++ sprOne op p h base around i m ++ post → pre.length = m → (base ≠ nm0 → around ≠ []) → (0 < cl op p → Grp R around (m - r.number) r.count) → r.number ≤ m → Ctx R around m (cl op p) → m + cl op p ≤ 150 → around.length + (n + 1) ≤ 100 →
    (tagStep (extB op p) (cl op p) base h r).names = r.names ++ nms R (sprOne op p h base around i m) m := by
  intro R pre post h base around i m r hR hm hb hg hn hc h1 h2
  have hl := sprOne_len op hok h base around i m
  by_cases hh : h = nm0
  · rw [sprOne, if_pos hh] at hR
    rw [tagStep, if_neg (fun e => e hh), sprOne, if_pos hh]
    exact hp R pre post base around m r hR hm hb hg hn hc h1 (by lia)
  · rw [sprOne, if_neg hh] at hR hl
    rw [tagStep, if_pos hh, sprOne, if_neg hh]
    have := hp R pre post (jb base h) (around ++ [idOf m around.length i]) m ⟨r.names, 0, cl op p⟩ hR hm (fun _ => by simp) (fun q => ?_) (Nat.zero_le _) (hc.tag (by lia) (by lia)) h1 (by rw [List.length_append, List.length_singleton]; lia)
    · exact this
    · rw [← hl] at hc q
      have z := Ctx.grp hc hR hm (by lia) (by lia) q (spr_ar op n p hok _ _ _ (by lia) (by rw [List.length_append, List.length_singleton]; lia))
      rw [hl] at z
      exact z
theorem Ctx.head {R pre A C post : List Row} {around : List Str} {m : Nat} (h : Ctx R around m (A.length + C.length)) (hR : R = pre ++ A ++ C ++ post) (hp : pre.length = m) (hC : SprAr C around (m + A.length)) : Ctx R around m A.length := by
  refine ⟨h.bef, fun k r hk hr x hx => ?_, h.anc⟩
  rcases Nat.lt_or_ge k (m + (A.length + C.length)) with q | q
  · have hg := get_mid (pre := pre ++ A) (m := m + A.length) hR (by rw [List.length_append, hp]) hk (by lia) hr
    obtain ⟨e, he, hx'⟩ := hC _ _ hg
    rw [he] at hx
    rcases List.mem_append.mp hx with z | z
    · exact .inl z
    · obtain ⟨a, d, s, k1, k2, k3, k4, k5, k6⟩ := hx' x z
      exact .inr (.inr ⟨a, d, s, k1, k2, k3, k4⟩)
  · rcases h.aft k r q hr x hx with z | z
    · exact .inl z
    · exact .inr (z.imp fun a d e => by lia)
theorem Ctx.rest {R pre A C post : List Row} {around : List Str} {m : Nat} (h : Ctx R around m (A.length + C.length)) (hR : R = pre ++ A ++ C ++ post) (hp : pre.length = m) (hA : SprAr A around m) : Ctx R around (m + A.length) C.length := by
  refine ⟨fun k r hk hr x hx => ?_, fun k r hk hr x hx => ?_, fun x hx => (h.anc x hx).imp fun a d e => ⟨e.1, by lia⟩⟩
  · rcases Nat.lt_or_ge k m with q | q
    · exact (h.bef k r q hr x hx).imp fun a d e => by lia
    · have hg := get_mid (pre := pre) (A := A) (post := C ++ post) (m := m) (by rw [hR, List.append_assoc, List.append_assoc]) hp q hk hr
      obtain ⟨e, he, hx'⟩ := hA _ _ hg
      rw [he] at hx
      rcases List.mem_append.mp hx with z | z
      · exact (h.anc x z).imp fun a d e => by lia
      · obtain ⟨a, d, s, k1, k2, k3, k4, k5, k6⟩ := hx' x z
        exact .inr ⟨a, d, s, k1, k2, k3, by lia⟩
  · rcases h.aft k r (by lia) hr x hx with z | z
    · exact .inl z
    · exact .inr (z.imp fun a d e => by lia)
theorem mainL (op : Bool) (n : Nat) : ∀ (ps : List Plan) (hs : List Nm) (R pre post : List Row) (base : Nm) (around : List Str) (i m : Nat) (r : NR), ps.length = hs.length → (∀ p ∈ ps, OkPlan n p ∧ MainP op n p) → R = pre ++ sprL op ps hs base around i m ++ post → pre.length = m → (base ≠ nm0 → around ≠ []) → (0 < clL op ps → Grp R around (m - r.number) r.count) → r.number ≤ m → Ctx R around m (clL op ps) → m + clL op ps ≤ 150 → around.length + (n + 1) ≤ 100 →
    (extL op ps hs base r).names = r.names ++ nms R (sprL op ps hs base around i m) m := by
  intro ps
  induction ps with
  | nil =>
    intro hs R pre post base around i m r hl
    cases hs with
    | nil => intros; rw [extL_nil, sprL_nil, nms_nil, List.append_nil]
    | cons h hs => simp at hl
  | cons p ps ih =>
    intro hs R pre post base around i m r hl hp hR hm hb hg hn hc h1 h2
    cases hs with
    | nil => simp at hl
    | cons h hs =>
    obtain ⟨hok, hmp⟩ := hp p (.head _)
    have hp' := fun q hq => hp q (List.mem_cons_of_mem p hq)
    have hl' : ps.length = hs.length := by simpa using hl
    rw [sprL_cons] at hR
    rw [clL] at h1 hc hg
    have hl1 := sprOne_len op hok h base around i m
    have hl2 := sprL_len op ps hs base around (i + 1) (m + (sprOne op p h base around i m).length) hl' fun q hq => spr_len op n q (hp' q hq).1
    have a1 : SprAr (sprOne op p h base around i m) around m := sprOne_ar op hok (spr_ar op n p hok) h base around i m (by lia) h2
    have a2 : SprAr (sprL op ps hs base around (i + 1) (m + (sprOne op p h base around i m).length)) around (m + (sprOne op p h base around i m).length) := sprL_ar op n ps hs base around (i + 1) _ hl' (fun q hq => ⟨(hp' q hq).1, spr_ar op n q (hp' q hq).1⟩) (by lia) h2
    have hR1 : R = pre ++ sprOne op p h base around i m ++ sprL op ps hs base around (i + 1) (m + (sprOne op p h base around i m).length) ++ post := by
      rw [hR]; simp [List.append_assoc]
    rw [← hl1, ← hl2] at hc
    have c1 := hc.head hR1 hm a2
    have c2 := hc.rest hR1 hm a1
    rw [hl1] at c1
    rw [hl2] at c2
    have e1 := mainOne op hok hmp R pre (sprL op ps hs base around (i + 1) (m + (sprOne op p h base around i m).length) ++ post) h base around i m r (by rw [hR1]; simp [List.append_assoc]) hm hb (fun q => hg (by lia)) hn c1 (by lia) h2
    obtain ⟨t1, t2, t3⟩ := tagStep_len (fun base r => extB_len op n p hok base r) (cl op p) base h r
    rw [extL, sprL_cons, nms_app]
    rw [ih hs R (pre ++ sprOne op p h base around i m) post base around (i + 1) (m + (sprOne op p h base around i m).length) _ hl' hp' hR1 (by rw [List.length_append, hm]) hb (fun q => ?_) (by lia) c2 (by lia) h2, e1, List.append_assoc]
    rw [t3, t2, hl1, show m + cl op p - (r.number + cl op p) = m - r.number by lia]
    exact hg (by lia)
theorem main (op : Bool) : ∀ (n : Nat) (p : Plan), OkPlan n p → MainP op n p
  | n, .nothing, _ => fun R pre post base around m r _ _ _ _ _ _ _ _ => by rw [extB, spr, nms_nil, List.append_nil]
  | n, .name, _ => fun R pre post base around m r hR hm hb hg hn _ _ _ => by
    rw [spr] at hR
    rw [extB, spr]
    have := leafs_eq (R := R) (k := .ls) (base := base) (around := around) [It.no] [nm0] m r pre post rfl (by rw [hR]; rw [rowsOf, rowsOf]; intro i is n ns e; cases e) hm hb (fun _ => hg (by rw [cl]; decide)) hn
    rw [this]
    rw [rowsOf, rowsOf]; intro i is n ns e; cases e
  | n, .row k its hd, h => fun R pre post base around m r hR hm hb hg hn _ _ _ => by
    have h4 : OkHeads its.length hd := by cases n <;> exact h.2.2.2
    rw [spr] at hR
    rw [extB, spr]
    exact leafs_eq its _ m r pre post h4.len.symm hR hm hb (fun q => hg (by rw [cl]; exact q)) hn
  | 0, .tree .., h => h.elim
  | n + 1, .tree k kids hd, h => fun R pre post base around m r hR hm hb hg hn hc h1 h2 => by
    have h4 := h.2.2.2.len
    rw [spr] at hR
    rw [cl] at hc h1 hg
    rw [extB, spr]
    cases op with
    | true =>
      rw [if_pos rfl] at hR hc h1 hg
      rw [if_pos rfl, if_pos rfl]
      exact mainL true n kids _ R pre post base around 0 m r h4.symm (fun p hp => ⟨h.2.2.1 p hp, main true n p (h.2.2.1 p hp)⟩) hR hm hb hg hn hc h1 h2
    | false =>
      rw [if_neg (by decide)] at hR hc h1 hg
      rw [if_neg (by decide), if_neg (by decide)]
      exact leafs_eq (kids.map fun _ => It.no) _ m r pre post (by rw [List.length_map]; exact h4.symm) hR hm hb (fun q => hg (by simpa using q)) hn
end
section
open PySem PySem.W PySem.Calls PyProof.Rows PySem.Spec
noncomputable abbrev lc2 (elt t1 i1 t2 i2 : Expr) (scope : Scope) (pos : Pos) : Expr := .ListComp elt [⟨t1, i1, [], 0⟩, ⟨t2, i2, [], 0⟩] scope pos
theorem turn2a (elt t1 i1 t2 i2 : Expr) (scope : Scope) (pos : Pos) (it acc : Value) (env : Env) :
    compTurn (lc2 elt t1 i1 t2 i2 scope pos) 0 it acc env = (standAt i1.pos >>= fun _ => pyNext it >>= fun r => match r with
      | none => pure (.done .next)
      | some v => letOwnedTupleGo t1 it v >>= fun _ => assign t1 env v >>= fun _ => eval i2 env >>= fun x => standAt i2.pos >>= fun _ => foldedSetIterable i2 env x >>= fun x =>
          holding [x] (pyIter x) >>= fun i => runOwn (.compStart (lc2 elt t1 i1 t2 i2 scope pos) 1 i acc env) env >>= fun _ => again (.compLoop (lc2 elt t1 i1 t2 i2 scope pos) 0 it acc env)) := by rfl
theorem turn2b (elt t1 i1 t2 i2 : Expr) (scope : Scope) (pos : Pos) (it acc : Value) (env : Env) :
    compTurn (lc2 elt t1 i1 t2 i2 scope pos) 1 it acc env = (standAt i2.pos >>= fun _ => pyNext it >>= fun r => match r with
      | none => pure (.done .next)
      | some v => letOwnedTupleGo t2 it v >>= fun _ => assign t2 env v >>= fun _ => (eval elt env >>= fun x => call (.builtin "list.append") [acc, x] >>= fun _ => pure ()) >>= fun _ =>
          again (.compLoop (lc2 elt t1 i1 t2 i2 scope pos) 1 it acc env)) := by rfl
section
variable {prog : Program} {w : World} {P : Params} {B : Shared} {f : Heap} {N : Led} {s : Shared} {A : Around} {env : Env} {K : Frag} {elt t1 i1 t2 i2 : Expr} {scope : Scope} {pos : Pos}
theorem start2b {it acc : Value} {R : Result → Shared → Prop} (h0 : codeAny (model prog w) A (.compLoop (lc2 elt t1 i1 t2 i2 scope pos) 1 it acc env) R s)
    (h : wpAny (model prog w) A (pyIter it) (fun it' s' => codeAny (model prog w) A (.compLoop (lc2 elt t1 i1 t2 i2 scope pos) 1 it' acc env) R s') (notedBy (model prog w) A env fun x s' => R (.error x) s') s) :
    codeAny (model prog w) A (.compStart (lc2 elt t1 i1 t2 i2 scope pos) 1 it acc env) R s := by
  refine codeAny_of_tree ?_
  show wpAny _ _ ((compStart (lc2 elt t1 i1 t2 i2 scope pos) 1 it acc env).onRaise (fun x => do noteFrame x env; standAt theWindowsPlace)) _ _ s
  refine wpAny_notedAt ?_
  unfold compStart
  show wpAny _ _ (ask >>= _) _ _ s
  refine wpAny_bind (wpAny_askSetting (wpAny_ite ?_))
  split
  · first
      | exact wpAny_bind (wpAny_pure (wpAny_pure (And.intro rfl h0)))
      | exact wpAny_pure (And.intro rfl h0)
  · first
      | exact wpAny_bind (wpAny_rule (wpAny_bind (wpAny_standAt (wpAny_bind (wpAny_mono h (fun it' s' h' => wpAny_pure (And.intro rfl h')) fun _ _ x => x)))))
      | (refine wpAny_bind (wpAny_rule ?_); show wpAny _ _ (standAt i2.pos >>= _) _ _ s; exact wpAny_bind (wpAny_standAt (wpAny_bind (wpAny_mono h (fun it' s' h' => wpAny_pure (And.intro rfl h')) fun _ _ x => x))))
theorem loop2b {it acc : Value} {R : Result → Shared → Prop} (I : Nat → Shared → Prop)
    (turn : ∀ n s, I n s → Wq prog w A (pyNext it) (fun r s₁ => match r with
      | none => R (.ok .next) s₁
      | some v => Wq prog w A (letOwnedTupleGo t2 it v) (fun _ s₁' => Wq prog w A (assign t2 env v) (fun _ s₂ =>
            Wq prog w A (eval elt env) (fun x s₄ => Wq prog w A (call (.builtin "list.append") [acc, x]) (fun _ s₅ => ∃ m, m < n ∧ I m s₅) s₄) s₂) s₁') s₁) s)
    (n : Nat) (h : I n s) : codeAny (model prog w) A (.compLoop (lc2 elt t1 i1 t2 i2 scope pos) 1 it acc env) R s := by
  refine codeAny_loop rfl I (fun n s hI => ?_) n h
  show wpAny _ A ((compTurn (lc2 elt t1 i1 t2 i2 scope pos) 1 it acc env).onRaise (fun x => do noteFrame x env; theTreesLotGoes x)) _ _ s
  refine wpAny_noted ?_
  rw [turn2b]
  refine wpAny_bind (wpAny_standAt (wpAny_bind (Wq.to (turn n s hI) (fun r s₁ h₁ => ?_))))
  cases r with
  | none => exact wpAny_pure h₁
  | some v =>
    refine wpAny_bind (Wq.to h₁ (fun _ s₁' h₁' => wpAny_bind (Wq.to h₁' (fun _ s₂ h₂ => ?_))))
    exact wpAny_bind (wpAny_bind (Wq.to h₂ (fun x s₄ h₄ => wpAny_bind (Wq.to h₄ (fun _ s₅ h₅ => wpAny_pure (wpAny_pure ⟨rfl, h₅⟩))))))
theorem loop2a {it acc : Value} {R : Result → Shared → Prop} (I : Nat → Shared → Prop) (hs : ∀ x, foldedSetIterable i2 env x = pure x)
    (turn : ∀ n s, I n s → Wq prog w A (pyNext it) (fun r s₁ => match r with
      | none => R (.ok .next) s₁
      | some v => Wq prog w A (letOwnedTupleGo t1 it v) (fun _ s₁' => Wq prog w A (assign t1 env v) (fun _ s₂ =>
            Wq prog w A (eval i2 env) (fun x s₄ => Wq prog w A (pyIter x) (fun i s₅ => codeAny (model prog w) A (.compStart (lc2 elt t1 i1 t2 i2 scope pos) 1 i acc env) (fun r s₆ => match r with | .ok _ => ∃ m, m < n ∧ I m s₆ | .error _ => False) s₅) s₄) s₂) s₁') s₁) s)
    (n : Nat) (h : I n s) : codeAny (model prog w) A (.compLoop (lc2 elt t1 i1 t2 i2 scope pos) 0 it acc env) R s := by
  refine codeAny_loop rfl I (fun n s hI => ?_) n h
  show wpAny _ A ((compTurn (lc2 elt t1 i1 t2 i2 scope pos) 0 it acc env).onRaise (fun x => do noteFrame x env; theTreesLotGoes x)) _ _ s
  refine wpAny_noted ?_
  rw [turn2a]
  refine wpAny_bind (wpAny_standAt (wpAny_bind (Wq.to (turn n s hI) (fun r s₁ h₁ => ?_))))
  cases r with
  | none => exact wpAny_pure h₁
  | some v =>
    refine wpAny_bind (Wq.to h₁ (fun _ s₁' h₁' => wpAny_bind (Wq.to h₁' (fun _ s₂ h₂ => ?_))))
    refine wpAny_bind (Wq.to h₂ (fun x s₄ h₄ => ?_))
    refine wpAny_bind (wpAny_standAt (wpAny_bind (wpAny_of_eq (hs x) ?_)))
    refine wpAny_bind (wpAny_holding (Wq.to h₄ (fun i s₅ h₅ => ?_)))
    refine wpAny_bind (wpAny_runOwn (codeAny_mono h₅ fun r s' z => ?_))
    cases r with
    | ok fl => exact wpAny_pure ⟨rfl, z⟩
    | error e => exact z.elim
theorem inner2 {C acc it : Addr} {n : Nat} {V : Nat → Value → Prop} {D : Nat → Pd} {f0 : Heap} {vs : List Value} {l : List (Str × Value)} {R : Result → Shared → Prop} (I : Iter prog w A B it n V D f0) (J : Nat → List Value → Prop)
    (H : St B f ((C, HasVars l) :: (acc, IsLst vs) :: (it, D 0) :: N) s) (h0 : Le f0 f) (hJ : J 0 vs)
    (turn : ∀ i l vs s' v, i < n → J i vs → V i v → St B f ((C, HasVars l) :: (acc, IsLst vs) :: (it, D (i + 1)) :: N) s' →
      Wp prog w A (assign t2 env v) (fun _ s₂ => Wp prog w A (eval elt env) (fun y s₄ => ∃ l', J (i + 1) (vs ++ [y]) ∧ vs.length < 100000 ∧ St B f ((C, HasVars l') :: (acc, IsLst vs) :: (it, D (i + 1)) :: N) s₄) s₂) s')
    (fin : ∀ l vs s', J n vs → St B f ((C, HasVars l) :: (acc, IsLst vs) :: N) s' → R (.ok .next) s') : codeAny (model prog w) A (.compStart (lc2 elt t1 i1 t2 i2 scope pos) 1 (.ref it) (.ref acc) env) R s := by
  have loop : ∀ s', s' = s → codeAny (model prog w) A (.compLoop (lc2 elt t1 i1 t2 i2 scope pos) 1 (.ref it) (.ref acc) env) R s' := by
    rintro _ rfl
    refine loop2b (fun m s' => ∃ i vs l, i + m = n ∧ J i vs ∧ St B f ((C, HasVars l) :: (acc, IsLst vs) :: (it, D i) :: N) s') ?_ n ⟨0, vs, l, by lia, hJ, H⟩
    rintro m s' ⟨i, vs, l, him, hJ', H'⟩
    have Hp := H'.p2
    by_cases hi : i < n
    · refine (I.item i f _ s' _ hi h0 Hp (fun v s₁ hv H₁ => ?_)).run
      dsimp only
      refine (I.go i f _ s₁ t2 v _ hv H₁ ?_).run
      have H₁' : St B f ((C, HasVars l) :: (acc, IsLst vs) :: (it, D (i + 1)) :: N) s₁ := H₁.p2.p2
      refine (turn i l vs s₁ v hi hJ' hv H₁').run.mono fun _ s₂ h₂ => ?_
      refine h₂.run.mono fun y s₄ h₄ => ?_
      obtain ⟨l', g2, g3, g4⟩ := h₄
      exact (W_append g4.p1 g3 fun s₅ H₅ => ⟨m - 1, by lia, i + 1, _, l', by lia, g2, H₅.p1⟩).run
    · have hin : i = n := by lia
      subst hin
      refine (I.stop f _ s' _ h0 Hp (fun s₁ H₁ => ?_)).run
      exact fin l vs s₁ hJ' H₁
  exact start2b (loop s rfl) (Wq.any (I.self 0 f _ _ _ H.p2 (loop s rfl)).run)
structure Cp2 (prog : Program) (w : World) (A : Around) (elt t1 i1 t2 i2 : Expr) (scope : Scope) (cl : List (Str × Addr)) (pos : Pos) (env : Env) (it : Value) (Q : Value → Shared → Prop) (s : Shared) : Prop where
  run : Wq prog w A (newList []) (fun acc s₃ => Wq prog w A (newFunctionEnv scope env.globals cl [] env.qual none .none (some env)) (fun cenv s₄ =>
      codeAny (model prog w) A (.compStart (lc2 elt t1 i1 t2 i2 scope pos) 0 it acc { cenv with scope := relabel scope env }) (compPost (model prog w) A FF none Q acc cenv.locals) s₄) s₃) s
theorem W_ListComp2 {cl : List (Str × Addr)} {Q : Value → Shared → Prop} (hclos : closureFor scope env = pure cl) (hsc : compOK scope = true)
    (h : Wp prog w A (eval i1 env) (fun x s₁ => Wp prog w A (pyIter x) (fun it s₂ => Cp2 prog w A elt t1 i1 t2 i2 scope cl pos env it Q s₂) s₁) s)
    (hs : ∀ x, foldedSetIterable i1 env x = pure x := by intro _; rfl) : Wp prog w A (eval (lc2 elt t1 i1 t2 i2 scope pos) env) Q s := by
  have hsc' := hsc
  simp only [compOK, Bool.and_eq_true, List.all_eq_true, decide_eq_true_eq] at hsc'
  refine ⟨?_⟩
  show wpAny _ _ _ _ _ _
  rw [eval_ListComp]
  exact wpAny_comprehension_free (use := none) rfl hs hclos hsc'.1.2 hsc'.2 (h.run.mono fun _ _ x => x.run.mono fun _ _ x => x.run)
theorem W_comp2 {cl : List (Str × Addr)} {it : Addr} {n : Nat} {V : Nat → Value → Prop} {D : Nat → Pd} {f0 : Heap} {Q : Value → Shared → Prop} (hsc : compOK scope = true)
    (I : Iter prog w A B it n V D f0) (J : Nat → Heap → Led → List Value → Prop) (H : St B f ((it, D 0) :: N) s) (h0 : Le f0 f) (hJ : J 0 f N []) (hs2 : ∀ C x, foldedSetIterable i2 (compEnvC scope cl C env) x = pure x)
    (turn : ∀ C acc i f' N' vs l s' v, i < n → Le f f' → J i f' N' vs → V i v → St B f' ((C, HasVars l) :: (acc, IsLst vs) :: (it, D (i + 1)) :: N') s' →
      Wp prog w A (assign t1 (compEnvC scope cl C env) v) (fun _ s₂ => Wp prog w A (eval i2 (compEnvC scope cl C env)) (fun x s₃ => Wp prog w A (pyIter x) (fun i' s₄ =>
        codeAny (model prog w) A (.compStart (lc2 elt t1 i1 t2 i2 scope pos) 1 i' (.ref acc) (compEnvC scope cl C env)) (fun r s₅ => match r with
          | .ok _ => ∃ f'' N'' l' vs', Le f f'' ∧ J (i + 1) f'' N'' vs' ∧ St B f'' ((C, HasVars l') :: (acc, IsLst vs') :: (it, D (i + 1)) :: N'') s₅
          | .error _ => False) s₄) s₃) s₂) s')
    (fin : ∀ acc f' N' vs s', Le f f' → J n f' N' vs → St B f' ((acc, IsLst vs) :: N') s' → Q (.ref acc) s') : Cp2 prog w A elt t1 i1 t2 i2 scope cl pos env (.ref it) Q s := by
  simp only [compOK, Bool.and_eq_true, List.all_eq_true, decide_eq_true_eq] at hsc
  obtain ⟨⟨hcell, hkind⟩, -⟩ := hsc
  refine ⟨?_⟩
  refine r_newlist H (fun acc s₃ H₃ => ?_) (Nat.zero_le _)
  refine wpAny_newFunctionEnv hcell (by intro y hy; simp at hy) (fun h₁ hns₁ hsb₁ => ?_) hkind
  try dsimp only at hns₁ hsb₁ ⊢
  have hk₁ : Le s₃.heap h₁ := fun b o e => hsb₁.extBut b o (Nat.ne_of_lt (Heap.lt_size e)) (Heap.get?_push_of_some _ e)
  obtain ⟨oC, eC, pC, hoC, hdC, hkC, hfC⟩ := hns₁
  have H₄ : St B f ((s₃.heap.objs.size, HasVars []) :: (acc, IsLst []) :: (it, D 0) :: N) { s₃ with heap := h₁, toks := s₃.toks + ([] : List (Str × Value)).length } :=
    H₃.growNew hk₁ (get?_size _ (Nat.le_refl _)) hoC ⟨eC, pC, hdC, hkC, fun k v e => by cases e⟩
  generalize hC : s₃.heap.objs.size = C at *
  have loop : ∀ s₅ : Shared, s₅ = { s₃ with heap := h₁, toks := s₃.toks + ([] : List (Str × Value)).length } →
      codeAny (model prog w) A (.compLoop (lc2 elt t1 i1 t2 i2 scope pos) 0 (.ref it) (.ref acc) (compEnvC scope cl C env)) (compPost (model prog w) A FF none Q (.ref acc) C) s₅ := by
    rintro s₅ rfl
    refine loop2a (fun m s' => ∃ i f' N' vs l, i + m = n ∧ Le f f' ∧ J i f' N' vs ∧ St B f' ((C, HasVars l) :: (acc, IsLst vs) :: (it, D i) :: N') s') (hs2 C) ?_ n ⟨0, f, N, [], [], by lia, Le.refl f, hJ, H₄⟩
    rintro m s' ⟨i, f', N', vs, l, him, hle, hJ', H'⟩
    have Hp := H'.p2
    by_cases hi : i < n
    · refine (I.item i f' _ s' _ hi (h0.trans hle) Hp (fun v s₁ hv H₁ => ?_)).run
      dsimp only
      refine (I.go i f' _ s₁ t1 v _ hv H₁ ?_).run
      have H₁' : St B f' ((C, HasVars l) :: (acc, IsLst vs) :: (it, D (i + 1)) :: N') s₁ := H₁.p2.p2
      refine (turn C acc i f' N' vs l s₁ v hi hle hJ' hv H₁').run.mono fun _ s₂ h₂ => h₂.run.mono fun x s₃ h₃ => h₃.run.mono fun i' s₄ h₄ => codeAny_mono h₄ fun r s₅ z => ?_
      cases r with
      | ok fl => obtain ⟨f'', N'', l', vs', g1, g2, g3⟩ := z; exact ⟨m - 1, by lia, i + 1, f'', N'', vs', l', by lia, g1, g2, g3⟩
      | error e => exact z
    · have hin : i = n := by lia
      subst hin
      refine (I.stop f' _ s' _ (h0.trans hle) Hp (fun s₁ H₁ => ?_)).run
      obtain ⟨m, hn, -⟩ := H₁.ns
      exact ⟨m, hn, fun h' hs => fin acc f' N' vs _ hle hJ' (H₁.lose (tk := s₁.toks) hs.extBut)⟩
  exact codeAny_compStart_list (loop _ rfl) (Wq.any (I.self 0 f _ _ _ H₄.p2 (loop _ rfl)).run)
end
end
open PySem PySem.W PySem.Calls PyProof.Rows PySem.Spec
section
variable {prog : Program} {w : World} {P : Params} {B : Shared} {f : Heap} {N : Led} {s : Shared} {A : Around} {env : Env}
theorem Wp.gen {α : Type} {t : Sem α} {Q : α → Shared → Prop} (h : ∀ Q1 : α → Shared → Prop, (∀ v s1, Q v s1 → Q1 v s1) → Wp prog w A t Q1 s) : Wp prog w A t Q s := h Q fun _ _ x => x
theorem Wp.monoG {α : Type} {t : Sem α} {Q Q' : α → Shared → Prop} (h : ∀ Q1 : α → Shared → Prop, (∀ v s1, Q v s1 → Q1 v s1) → Wp prog w A t Q1 s) (hq : ∀ v s', Q v s' → Q' v s') : Wp prog w A t Q' s := h Q' hq
theorem W_loopG {target : Expr} {it : Addr} {body : List Stmt} {n : Nat} {V : Nat → Value → Prop} {D : Nat → Pd} {f0 : Heap} {Q : Flow → Shared → Prop} (I : Iter prog w A B it n V D f0) (J : Nat → Heap → Led → Prop) (H : St B f ((it, D 0) :: N) s) (h0 : Le f0 f) (hJ : J 0 f N)
    (turn : ∀ (Q1 : Flow → Shared → Prop) i f' N' s' v, (∀ fl s₃, (match fl with
      | .next | .cont => ∃ f'' N'', Le f f'' ∧ J (i + 1) f'' N'' ∧ St B f'' ((it, D (i + 1)) :: N'') s₃
      | .brk => Q .next s₃
      | .ret v => Q (.ret v) s₃) → Q1 fl s₃) → i < n → Le f f' → J i f' N' → V i v → St B f' ((it, D (i + 1)) :: N') s' → Wp prog w A (assign target env v) (fun _ s₂ => Wp prog w A (execs body env) Q1 s₂) s')
    (fin : ∀ f' N' s', Le f f' → J n f' N' → St B f' N' s' → Q .next s') : Lp prog w A target (.ref it) body [] env Q s :=
  W_loop I J H h0 hJ (fun i f' N' s' v h1 h2 h3 h4 h5 => turn _ i f' N' s' v (fun _ _ x => x) h1 h2 h3 h4 h5) fin
theorem W_compG {elt target iter : Expr} {scope : Scope} {cl : List (Str × Addr)} {pos : Pos} {it : Addr} {n : Nat} {V : Nat → Value → Prop} {D : Nat → Pd} {f0 : Heap} {Q : Value → Shared → Prop} (hsc : compOK scope = true)
    (I : Iter prog w A B it n V D f0) (J : Nat → Heap → Led → List Value → Prop) (H : St B f ((it, D 0) :: N) s) (h0 : Le f0 f) (hJ : J 0 f N [])
    (turn : ∀ (Q1 : Value → Shared → Prop) C acc i f' N' vs l s' v, (∀ y s₄, (∃ f'' N'' l', Le f f'' ∧ J (i + 1) f'' N'' (vs ++ [y]) ∧ vs.length < 100000 ∧ St B f'' ((C, HasVars l') :: (acc, IsLst vs) :: (it, D (i + 1)) :: N'') s₄) → Q1 y s₄) → i < n → Le f f' → J i f' N' vs → V i v → St B f' ((C, HasVars l) :: (acc, IsLst vs) :: (it, D (i + 1)) :: N') s' →
      Wp prog w A (assign target (compEnvC scope cl C env) v) (fun _ s₂ => Wp prog w A (eval elt (compEnvC scope cl C env)) Q1 s₂) s')
    (fin : ∀ acc f' N' vs s', Le f f' → J n f' N' vs → St B f' ((acc, IsLst vs) :: N') s' → Q (.ref acc) s') : Cp prog w A elt target iter [] scope cl pos env none (.ref it) Q s :=
  W_comp hsc I J H h0 hJ (fun C acc i f' N' vs l s' v h1 h2 h3 h4 h5 => (turn _ C acc i f' N' vs l s' v (fun _ _ x => x) h1 h2 h3 h4 h5).mono fun _ s₂ x => T_nil (by simpa using x)) fin
theorem W_compAG {elt target iter : Expr} {scope : Scope} {cl : List (Str × Addr)} {pos : Pos} {it : Addr} {n : Nat} {V : Nat → Value → Prop} {D : Nat → Pd} {f0 : Heap} {Q : Value → Shared → Prop} {y : Str} {py : Pos} (hsc : compOK scope = true)
    (I : Iter prog w A B it n V D f0) (J : Nat → Heap → Led → List Value → Prop) (H : St B f ((it, D 0) :: N) s) (h0 : Le f0 f) (hJ : J 0 f N [])
    (turn : ∀ (Q1 : Value → Shared → Prop) C acc i f' N' vs l s' v, (∀ y s₄, (∃ f'' N'' l', Le f f'' ∧ J (i + 1) f'' N'' (vs ++ [y]) ∧ vs.length < 100000 ∧ St B f'' ((C, HasVars l') :: (acc, IsLst vs) :: (it, D (i + 1)) :: N'') s₄) → Q1 y s₄) → i < n → Le f f' → J i f' N' vs → V i v → St B f' ((C, HasVars l) :: (acc, IsLst vs) :: (it, D (i + 1)) :: N') s' →
      Wp prog w A (assign target (compEnvC scope cl C env) v) (fun _ s₂ => Wp prog w A (eval elt (compEnvC scope cl C env)) Q1 s₂) s')
    (hy : env.kindOf y = some .local)
    (fin : ∀ acc f' N' vs s', Le f f' → J n f' N' vs → St B f' ((acc, IsLst vs) :: N') s' → ∃ l N'', Sel ((env.locals, HasVars l) :: N'') ((acc, IsLst vs) :: N') ∧ ∀ s'', St B f' ((env.locals, HasVars ((y, .ref acc) :: l)) :: N'') s'' → Q .none s'')
    (hp : (env.scope.kind == .class || (env.scope.kind == .module && env.locals != env.globals)) = false := by rfl) : Cp prog w A elt target iter [] scope cl pos env (some (assign (.Name y py) env)) (.ref it) Q s :=
  W_compA hsc I J H h0 hJ (fun C acc i f' N' vs l s' v h1 h2 h3 h4 h5 => (turn _ C acc i f' N' vs l s' v (fun _ _ x => x) h1 h2 h3 h4 h5).mono fun _ s₂ x => T_nil (by simpa using x)) hy fin hp
theorem ite_tt {a b : Prop} (h : a) : if true = true then a else b := by rw [if_pos rfl]; exact h
theorem ite_ff {a b : Prop} (h : b) : if false = true then a else b := by rw [if_neg Bool.false_ne_true]; exact h
theorem ite_nt {a b : Prop} (h : b) : if (!true) = true then a else b := by rw [Bool.not_true, if_neg Bool.false_ne_true]; exact h
theorem ite_nf {a b : Prop} (h : a) : if (!false) = true then a else b := by rw [Bool.not_false, if_pos rfl]; exact h
noncomputable def GV (P : Params) (x : Str) (v : Value) : Prop := (x == ("__debug__" : Str)) = false ∧ (nsIn (K0 P) mainGlobals x = some (some v) ∨ (nsIn (K0 P) mainGlobals x = some none ∧ bootBuiltins x = some v ∧ x ≠ "__name__"))
noncomputable def GE (env : Env) (x : Str) : Prop := env.kindOf x = some .globalImplicit ∧ env.globals = mainGlobals ∧ env.builtins = builtinsNs ∧ env.scope.kind = .function
theorem W_gv {x : Str} {pos : Pos} {v : Value} {Q : Value → Shared → Prop} (X : Base (K0 P) B) (e : GV P x v) (H : St B f N s) (he : GE env x) (h : Q v s) : Wp prog w A (eval (.Name x pos) env) Q s := by
  obtain ⟨hd, e | ⟨e1, e2, e3⟩⟩ := e
  · exact W_glob X H he.1 e h he.2.1 he.2.2.2 hd
  · exact W_blt X H he.1 e1 e2 e3 h he.2.1 he.2.2.1 he.2.2.2 hd
theorem gv_len : GV P "len" (.builtin "len") := ⟨by decide +kernel, .inr ⟨bt_len P, bv_len, bn_len⟩⟩
theorem gv_range : GV P "range" (.type "range") := ⟨by decide +kernel, .inr ⟨bt_range P, bv_range, bn_range⟩⟩
theorem gv_list : GV P "list" (.type "list") := ⟨by decide +kernel, .inr ⟨bt_list P, bv_list, bn_list⟩⟩
theorem gv_str : GV P "str" (.type "str") := ⟨by decide +kernel, .inr ⟨bt_str P, bv_str, bn_str⟩⟩
theorem gv_max : GV P "max" (.builtin "max") := ⟨by decide +kernel, .inr ⟨bt_max P, bv_max, bn_max⟩⟩
theorem gv_isinstance : GV P "isinstance" (.builtin "isinstance") := ⟨by decide +kernel, .inr ⟨bt_isinstance P, bv_isinstance, bn_isinstance⟩⟩
theorem gv_get_attr : GV P "get_attr" (.ref 28) := ⟨by decide +kernel, .inl (nm_get_attr P)⟩
theorem gv_names_of : GV P "names_of" (.ref 33) := ⟨by decide +kernel, .inl (nm_names_of P)⟩
theorem gv_dim_of : GV P "dim_of" (.ref 40) := ⟨by decide +kernel, .inl (nm_dim_of P)⟩
theorem gv_dimnames_of : GV P "dimnames_of" (.ref 45) := ⟨by decide +kernel, .inl (nm_dimnames_of P)⟩
theorem gv_room : GV P "room" (.ref 353) := ⟨by decide +kernel, .inl (nm_room P)⟩
theorem gv_null : GV P "null" (.ref 360) := ⟨by decide +kernel, .inl (nm_null P)⟩
theorem gv_character : GV P "character" (.ref 367) := ⟨by decide +kernel, .inl (nm_character P)⟩
theorem gv_named : GV P "named" (.ref 374) := ⟨by decide +kernel, .inl (nm_named P)⟩
theorem gv_length : GV P "length" (.ref 381) := ⟨by decide +kernel, .inl (nm_length P)⟩
theorem gv_is_vector : GV P "is_vector" (.ref 388) := ⟨by decide +kernel, .inl (nm_is_vector P)⟩
theorem gv_is_atomic : GV P "is_atomic" (.ref 395) := ⟨by decide +kernel, .inl (nm_is_atomic P)⟩
theorem gv_share : GV P "share" (.ref 402) := ⟨by decide +kernel, .inl (nm_share P)⟩
theorem gv_kind_order : GV P "kind_order" (.ref 409) := ⟨by decide +kernel, .inl (nm_kind_order P)⟩
theorem gv_common_kind : GV P "common_kind" (.ref 416) := ⟨by decide +kernel, .inl (nm_common_kind P)⟩
theorem gv_to_integer : GV P "to_integer" (.ref 458) := ⟨by decide +kernel, .inl (nm_to_integer P)⟩
theorem gv_to_text : GV P "to_text" (.ref 472) := ⟨by decide +kernel, .inl (nm_to_text P)⟩
theorem gv_item_as : GV P "item_as" (.ref 479) := ⟨by decide +kernel, .inl (nm_item_as P)⟩
theorem gv_is_atomic_kind : GV P "is_atomic_kind" (.ref 486) := ⟨by decide +kernel, .inl (nm_is_atomic_kind P)⟩
theorem gv_with_names : GV P "with_names" (.ref 512) := ⟨by decide +kernel, .inl (nm_with_names P)⟩
theorem gv_as_kind : GV P "as_kind" (.ref 517) := ⟨by decide +kernel, .inl (nm_as_kind P)⟩
theorem gv_opens : GV P "opens" (.ref 545) := ⟨by decide +kernel, .inl (nm_opens P)⟩
theorem gv_count_leaves : GV P "count_leaves" (.ref 552) := ⟨by decide +kernel, .inl (nm_count_leaves P)⟩
theorem gv_inner_text : GV P "inner_text" (.ref 559) := ⟨by decide +kernel, .inl (nm_inner_text P)⟩
theorem gv_joined_base : GV P "joined_base" (.ref 566) := ⟨by decide +kernel, .inl (nm_joined_base P)⟩
theorem gv_leaf_name : GV P "leaf_name" (.ref 573) := ⟨by decide +kernel, .inl (nm_leaf_name P)⟩
theorem gv_plain_names : GV P "plain_names" (.ref 580) := ⟨by decide +kernel, .inl (nm_plain_names P)⟩
theorem gv_extract_names : GV P "extract_names" (.ref 587) := ⟨by decide +kernel, .inl (nm_extract_names P)⟩
theorem gv_has_names : GV P "has_names" (.ref 594) := ⟨by decide +kernel, .inl (nm_has_names P)⟩
theorem gv_joined_names : GV P "joined_names" (.ref 601) := ⟨by decide +kernel, .inl (nm_joined_names P)⟩
theorem gv_gather : GV P "gather" (.ref 608) := ⟨by decide +kernel, .inl (nm_gather P)⟩
theorem gv_part_items : GV P "part_items" (.ref 615) := ⟨by decide +kernel, .inl (nm_part_items P)⟩
theorem gv_combined : GV P "combined" (.ref 620) := ⟨by decide +kernel, .inl (nm_combined P)⟩
theorem gv_unlisted : GV P "unlisted" (.ref 625) := ⟨by decide +kernel, .inl (nm_unlisted P)⟩
theorem gv_law_gulp : GV P "_law_gulp" (.ref 632) := ⟨by decide +kernel, .inl (nm_law_gulp P)⟩
theorem gv_law_tag : GV P "_law_tag" (.ref 639) := ⟨by decide +kernel, .inl (nm_law_tag P)⟩
theorem gv_law_plan : GV P "_law_plan" (.ref 644) := ⟨by decide +kernel, .inl (nm_law_plan P)⟩
theorem gv_law_value : GV P "_law_value" (.ref 649) := ⟨by decide +kernel, .inl (nm_law_value P)⟩
theorem gv_law_behind : GV P "_law_behind" (.ref 656) := ⟨by decide +kernel, .inl (nm_law_behind P)⟩
theorem gv_law_is_open : GV P "_law_is_open" (.ref 663) := ⟨by decide +kernel, .inl (nm_law_is_open P)⟩
theorem gv_law_spread : GV P "_law_spread" (.ref 670) := ⟨by decide +kernel, .inl (nm_law_spread P)⟩
theorem gv_law_kinds : GV P "_law_kinds" (.ref 675) := ⟨by decide +kernel, .inl (nm_law_kinds P)⟩
theorem gv_law_is_named : GV P "_law_is_named" (.ref 680) := ⟨by decide +kernel, .inl (nm_law_is_named P)⟩
theorem gv_law_names : GV P "_law_names" (.ref 685) := ⟨by decide +kernel, .inl (nm_law_names P)⟩
theorem gv_law_raised : GV P "_law_raised" (.ref 692) := ⟨by decide +kernel, .inl (nm_law_raised P)⟩
theorem gv_law_is_due : GV P "_law_is_due" (.ref 697) := ⟨by decide +kernel, .inl (nm_law_is_due P)⟩
theorem gv_law : GV P "law" (.ref 702) := ⟨by decide +kernel, .inl (nm_law P)⟩
theorem gv_Null : GV P "Null" (.ref 292) := ⟨by decide +kernel, .inl (nm_Null P)⟩
theorem gv_Vector : GV P "Vector" (.ref 321) := ⟨by decide +kernel, .inl (nm_Vector P)⟩
theorem gv_Symbol : GV P "Symbol" (.ref 342) := ⟨by decide +kernel, .inl (nm_Symbol P)⟩
theorem gv_NameRow : GV P "NameRow" (.ref 534) := ⟨by decide +kernel, .inl (nm_NameRow P)⟩
theorem Mp_nx {k k1 : Str} {v1 v : Value} {l : List (Str × Value)} (h1 : (k == k1) = false) (h : Mp l k = some v) : Mp ((k1, v1) :: l) k = some v := (Mp_skip h1).trans h
theorem and_lives {p : Prop} (H : St B f N s) (h : p) : Lives B s ∧ p := ⟨H.lives, h⟩
theorem len_line {l : List Value} (h : Nat.ble l.length 8 = true) : l.length ≤ sizeLine := Nat.le_trans (Nat.le_of_ble_eq_true h) (by rw [sizeLine_eq]; decide)
theorem GE_mk {x : Str} (h1 : env.kindOf x = some .globalImplicit) (h2 : env.globals = mainGlobals) (h3 : env.builtins = builtinsNs) (h4 : env.scope.kind = .function) : GE env x := ⟨h1, h2, h3, h4⟩
theorem same_cell {p : Pd} : ∀ o, p o → p o := fun _ h => h
theorem open_cell {v : Value} : ∀ o, IsCellO v o → IsCellN o := fun _ h => ⟨_, h⟩
theorem kv_end {n : Nat} {l : List (Str × Value)} (h : Nat.ble (l.length + 1) n = true) : l.length < n := Nat.le_of_ble_eq_true h
theorem cons_all {p : Nat → Prop} {a : Nat} {l : List Nat} (h : p a) (hl : ∀ b ∈ l, p b) : ∀ b ∈ a :: l, p b := by
  intro b hb
  cases hb
  · exact h
  · exact hl _ (by assumption)
noncomputable def fnList : List Nat := [28, 33, 40, 45, 353, 360, 367, 374, 381, 388, 395, 402, 409, 416, 458, 472, 479, 486, 512, 517, 545, 552, 559, 566, 573, 580, 587, 594, 601, 608, 615, 620, 625, 632, 639, 644, 649, 656, 663, 670, 675, 680, 685, 692, 697, 702]
theorem fn_any (X : Base (K0 P) B) : ∀ a ∈ fnList, ∃ fd, FnAt B.heap a fd :=
  cons_all ⟨_, fn_get_attr X⟩ <| cons_all ⟨_, fn_names_of X⟩ <| cons_all ⟨_, fn_dim_of X⟩ <| cons_all ⟨_, fn_dimnames_of X⟩ <| cons_all ⟨_, fn_room X⟩ <| cons_all ⟨_, fn_null X⟩ <| cons_all ⟨_, fn_character X⟩ <| cons_all ⟨_, fn_named X⟩ <| cons_all ⟨_, fn_length X⟩ <| cons_all ⟨_, fn_is_vector X⟩ <| cons_all ⟨_, fn_is_atomic X⟩ <| cons_all ⟨_, fn_share X⟩ <| cons_all ⟨_, fn_kind_order X⟩ <| cons_all ⟨_, fn_common_kind X⟩ <| cons_all ⟨_, fn_to_integer X⟩ <| cons_all ⟨_, fn_to_text X⟩ <| cons_all ⟨_, fn_item_as X⟩ <| cons_all ⟨_, fn_is_atomic_kind X⟩ <| cons_all ⟨_, fn_with_names X⟩ <| cons_all ⟨_, fn_as_kind X⟩ <| cons_all ⟨_, fn_opens X⟩ <| cons_all ⟨_, fn_count_leaves X⟩ <| cons_all ⟨_, fn_inner_text X⟩ <| cons_all ⟨_, fn_joined_base X⟩ <| cons_all ⟨_, fn_leaf_name X⟩ <| cons_all ⟨_, fn_plain_names X⟩ <| cons_all ⟨_, fn_extract_names X⟩ <| cons_all ⟨_, fn_has_names X⟩ <| cons_all ⟨_, fn_joined_names X⟩ <| cons_all ⟨_, fn_gather X⟩ <| cons_all ⟨_, fn_part_items X⟩ <| cons_all ⟨_, fn_combined X⟩ <| cons_all ⟨_, fn_unlisted X⟩ <| cons_all ⟨_, fn_law_gulp X⟩ <| cons_all ⟨_, fn_law_tag X⟩ <| cons_all ⟨_, fn_law_plan X⟩ <| cons_all ⟨_, fn_law_value X⟩ <| cons_all ⟨_, fn_law_behind X⟩ <| cons_all ⟨_, fn_law_is_open X⟩ <| cons_all ⟨_, fn_law_spread X⟩ <| cons_all ⟨_, fn_law_kinds X⟩ <| cons_all ⟨_, fn_law_is_named X⟩ <| cons_all ⟨_, fn_law_names X⟩ <| cons_all ⟨_, fn_law_raised X⟩ <| cons_all ⟨_, fn_law_is_due X⟩ <| cons_all ⟨_, fn_law X⟩ <| fun _ h => nomatch h
theorem W_fnE {pos : Pos} {fa : Addr} {e : Expr} {rest : List Expr} {Q : Value → Shared → Prop} (X : Base (K0 P) B) (hf : fnList.contains fa = true)
    (h : Wp prog w A (spliced (backTo pos (starEach (e :: rest) env))) (fun vs s₁ => Lives B s₁ ∧ Wp prog w A (call (.ref fa) vs) Q s₁) s)
    (he : starEach (e :: rest) env = (false, eval e env) :: starEach rest env := by rfl) (hplain : (backTo pos (starEach rest env)).any (·.1) = false := by rfl) :
    Wp prog w A (callWith pos (.ref fa) [] (backTo pos (starEach (e :: rest) env)) []) Q s := by
  obtain ⟨fd, hf⟩ := fn_any X fa (by simpa using hf)
  exact W_fn hf h he hplain
theorem W_fnE0 {pos : Pos} {fa : Addr} {Q : Value → Shared → Prop} (X : Base (K0 P) B) (hf : fnList.contains fa = true) (H : St B f N s) (h : Wp prog w A (call (.ref fa) []) Q s) :
    Wp prog w A (callWith pos (.ref fa) [] (backTo pos (starEach [] env)) []) Q s := by
  obtain ⟨fd, hf⟩ := fn_any X fa (by simpa using hf)
  exact W_fn0 hf H h
end
/- The walk's rules, by what stands under Wp or by the kind of a side goal; a group's rows are tried in turn. A row: the lemma; its arguments (`_`: found by the others, `?`: the goal the walk goes on with, `*`: what is left, on which the rows are tried again, any other word: the key of a side goal); how many names the next goal brings in. `tac` below turns a key into its tactic. -/
def rules : List (String × List String) := [
  ("eval", ["W_int asm ? 3", "W_str asm ? 3", "W_none ?", "W_bool ?", "W_local kind asm mem mp ?", "W_cell kfl handed asm mem ?", "W_gv asm glob asm ge ?", "W_Meth ?", "W_Sub ?", "W_Attr ?", "W_CallN ?", "W_Compare ?", "W_BinOp ?", "W_And ?", "W_Or ?", "W_OrC ?", "W_List ?", "W_Tuple ?"]),
  ("execs", ["W_cons ?", "W_nil ?"]),
  ("exec", ["W_Assign_Name ?", "W_Assign_Tuple ?", "W_Assign_Subscript ?", "W_Assign_Attr ?", "W_Aug_Name ?", "W_Aug_Attribute ?", "W_If ?", "W_Return ?", "W_For ?", "W_Return0 ?", "W_Expr ?"]),
  ("isTrue", ["W_tCompare ?", "W_tNot ?", "W_tAnd2 ?", "W_tOr2 ?", "W_tOr3 ?", "W_tPlain ?"]),
  ("spliced", ["W_sp0 ?", "W_sp1 ?"]),
  ("callWith", ["W_blt1 ?", "W_ty1 ?", "W_bm1 ?", "W_fnE asm dec ?", "W_fnE0 asm dec asm ?", "W_cls asm cls ?", "W_cls0 asm cls asm ?"]),
  ("assign", ["W_asName ?"]),
  ("getMethod", ["W_gm_append obj ?", "W_gm_extend obj ?", "W_gmT_index obj ?", "W_gm_index obj ?"]),
  ("storeName", ["W_store kind pull ? 2", "W_storeC kfl asm pull cello ? 2"]),
  ("loadName", ["W_load kind asm mem mp ?"]),
  ("binaryOp", ["W_add asm ? 3", "W_sub asm ? 3"]),
  ("inplaceOp", ["W_iadd asm ? 3"]),
  ("compareOp", ["W_gt ?", "W_lt ?", "W_eqi ?", "W_eqs ?", "W_nes ?", "W_inT obj strs ?", "W_inL obj strs ?", "W_isnone ?", "W_notnone ?"]),
  ("setAttr", ["W_setattr asm obj ck pull mem kvlen ? 2"]),
  ("getAttr", ["W_getattr asm asm obj ck obj mp handed ? 2", "W_getattr asm asm frozen ck frozen mp handed ? 2"]),
  ("call", ["W_range asm ? 3"]),
  ("newList", ["W_newlist asm ? line 3"]),
  ("newTuple", ["W_newtup asm ? line 3"]),
  ("subscriptTail", ["W_get0 objL ?", "W_get0 objI ?", "W_get0 frozenL ?", "W_get1 objL ?", "W_get1 objI ?", "W_get1 frozenL ?", "W_get2 objL ?", "W_get2 objI ?", "W_get2 frozenL ?", "W_get3 objL ?", "W_get3 objI ?", "W_get3 frozenL ?"]),
  ("truthy", ["W_truth ?"]),
  ("cls", ["nk_Vector _", "nk_Symbol _", "nk_Null _", "nk_NameRow _"]),
  ("obj", ["St.mem asm mem"]),
  ("frozen", ["St.at asm asm"]),
  ("objL", ["At.lst obj"]),
  ("objI", ["At.isList obj"]),
  ("frozenL", ["At.lst frozen"]),
  ("strs", ["StrsAre.nil", "StrsAre.cons *"]),
  ("amp", ["AllMp.nil", "AllMp.cons mp *"]),
  ("pull", ["St.pull asm ext"]),
  ("arr", ["St.sel asm sel"]),
  ("mpr", ["Mp_hd", "Mp_1 dk", "Mp_2 dk dk", "Mp_3 dk dk dk", "Mp_4 dk dk dk dk", "Mp_5 dk dk dk dk dk", "Mp_6 dk dk dk dk dk dk", "Mp_7 dk dk dk dk dk dk dk", "Mp_nx dk *"]),
  ("end", ["Sq_n ?", "Sq_r ?", "Sq_b ?", "Sq_c ?", "T_nil ?", "T_one ?", "ite_tt ?", "ite_ff ?", "ite_nt ?", "ite_nf ?", "and_lives asm ?"]),
  ("line", ["len_line kfl"]),
  ("ge", ["GE_mk kfl handed handed handed"]),
  ("cello", ["same_cell", "open_cell"]),
  ("kvlen", ["putKV_lt *", "kv_end kfl"]),
  ("ck", ["ck_Null_kind _", "ck_Null_attrs _", "ck_Vector_kind _", "ck_Vector_items _", "ck_Vector_attrs _", "ck_Vector_shared _", "ck_Vector_loose _", "ck_Symbol_kind _", "ck_Symbol_name _", "ck_Symbol_attrs _", "ck_NameRow_names _", "ck_NameRow_number _", "ck_NameRow_count _"])]
/- What may stand under Wp, and the number of its arguments. -/
def heads : List (Lean.Name × Nat) := [(`eval, 2), (`execs, 2), (`exec, 2), (`isTrue, 3), (`spliced, 1), (`callWith, 5), (`assign, 3), (`getMethod, 3), (`storeName, 3), (`loadName, 2), (`binaryOp, 3), (`inplaceOp, 3), (`compareOp, 3), (`setAttr, 3), (`getAttr, 3), (`call, 2), (`newList, 1), (`newTuple, 1), (`subscriptTail, 4), (`truthy, 1)]
def globs : List String := ["gv_len", "gv_range", "gv_list", "gv_str", "gv_max", "gv_isinstance", "gv_get_attr", "gv_names_of", "gv_dim_of", "gv_dimnames_of", "gv_room", "gv_null", "gv_character", "gv_named", "gv_length", "gv_is_vector", "gv_is_atomic", "gv_share", "gv_kind_order", "gv_common_kind", "gv_to_integer", "gv_to_text", "gv_item_as", "gv_is_atomic_kind", "gv_with_names", "gv_as_kind", "gv_opens", "gv_count_leaves", "gv_inner_text", "gv_joined_base", "gv_leaf_name", "gv_plain_names", "gv_extract_names", "gv_has_names", "gv_joined_names", "gv_gather", "gv_part_items", "gv_combined", "gv_unlisted", "gv_law_gulp", "gv_law_tag", "gv_law_plan", "gv_law_value", "gv_law_behind", "gv_law_is_open", "gv_law_spread", "gv_law_kinds", "gv_law_is_named", "gv_law_names", "gv_law_raised", "gv_law_is_due", "gv_law", "gv_Null", "gv_Vector", "gv_Symbol", "gv_NameRow"]
def alts (l : List String) (f : String → Lean.MacroM (Lean.TSyntax `Lean.Parser.Tactic.tacticSeq)) : Lean.MacroM (Lean.TSyntax `tactic) := do
  let as ← l.toArray.mapM f
  `(tactic| first $[| $as]*)
def till (t : Lean.TSyntax `tactic) : Lean.MacroM (Lean.TSyntax `tactic) := `(tactic| ((repeat $t:tactic); first | done | fail))
def lem (n : String) : Lean.TSyntax `term := Lean.mkIdent n.toName
/- The tactic of a key; a side goal's tactic stands in the row's own term. The number bounds the depth. -/
def tac : Nat → String → Lean.MacroM (Lean.TSyntax `tactic)
  | 0, _ => Lean.Macro.throwUnsupported
  | d + 1, k => match k with
    | "W" => do
      let as ← heads.toArray.mapM fun (f, n) => do
        let hs ← (Array.replicate n ()).mapM fun _ => `(_)
        `(tacticSeq| (with_reducible show Wp _ _ _ ($(Lean.mkIdent f) $hs*) _ _); $(← tac d f.toString):tactic)
      let hn := Lean.mkIdent `hn
      `(tactic| first $[| $as]* | $(← tac d "end"):tactic | (refine $hn _ _ ?_; clear $hn; try dsimp only) | (dsimp only; (with_reducible show Wp _ _ _ _ _ _)))
    | "R" => do `(tactic| repeat $(← tac d "W"):tactic)
    | "glob" => alts globs fun n => `(tacticSeq| with_reducible exact $(lem n))
    | "asm" => `(tactic| assumption)
    | "dec" => `(tactic| decide)
    | "kfl" => `(tactic| kernel_rfl)
    | "dk" => `(tactic| decide +kernel)
    | "handed" => `(tactic| first | assumption | rfl)
    | "kind" => do `(tactic| first | (show (FuncData.scope _).names.lookup _ = _; $(← tac d "dk"):tactic) | (show (relabel _ _).names.lookup _ = _; kernel_rfl))
    | "mem" => do till (← `(tactic| first | exact List.Mem.head _ | refine List.Mem.tail _ ?_))
    | "mpd" => do till (← `(tactic| first | (apply Mp_nx; focus $(← tac d "dk"):tactic) | exact Mp_hd))
    | "extr" => do till (← `(tactic| first | with_reducible exact Ext.head | apply Ext.tail))
    | "extd" => do till (← `(tactic| first | exact Ext.head | apply Ext.tail))
    | "ext" => do `(tactic| first | $(← tac d "extr"):tactic | $(← tac d "extd"):tactic)
    | "mp" => do `(tactic| first | $(← tac d "mpr"):tactic | $(← tac d "mpd"):tactic)
    | "sel" => do till (← `(tactic| first | with_reducible exact Sel.refl | ((with_reducible apply Sel.cons); focus $(← tac d "ext"):tactic) | apply Sel.drop))
    | key => do
      let l := (rules.lookup key).getD []
      if l.isEmpty then Lean.Macro.throwUnsupported
      let t ← alts l fun r => do
        let ws := r.splitOn " "
        let n := lem ws.head!
        if r.endsWith " *" then
          let ts ← (ws.drop 1).dropLast.toArray.mapM (tac d)
          return ← `(tacticSeq| (with_reducible apply $n); $[focus $ts:tactic];*)
        let as ← ((ws.drop 1).filter (!·.isNat)).toArray.mapM fun q => do
          if q == "_" then `(_) else if q == "?" then `(?_) else `((by $(← tac d q):tactic))
        let t := Lean.Syntax.mkApp n as
        if ws.contains "?" then `(tacticSeq| (fail_if_success (fail_if_success (with_reducible apply $n))); refine $t; iterate $(Lean.quote (ws.getLast!.toNat?.getD 0)) intro _)
        else if l.length == 1 then `(tacticSeq| exact $t)
        else `(tacticSeq| (fail_if_success (fail_if_success (with_reducible apply $n))); exact $t)
      if l.any (·.endsWith " *") then till t else pure t
local macro_rules | `(tactic| walk_at $k:str) => do return (← tac 8 k.getString).raw
section
variable {prog : Program} {w : World} {P : Params} {B : Shared} {f : Heap} {N : Led} {s : Shared} {A : Around}
theorem mk_Null (X : Base (K0 P) B) (hA : Room A 2) (H : St B f N s) {Q : Value → Shared → Prop}
    (h : ∀ x dx t s', St B f ((x, IsInst 292 dx) :: (dx, DictIs w.params [("kind", .str "NULL" t), ("attrs", .none)]) :: N) s' → Q (.ref x) s') : Wp prog w A (call (.ref 292) []) Q s := by
  refine W_new (fun x => [("self", .ref x)]) X (nk_Null P) (n := 0) hA (fn_Null_init X) H (body := fBody (sc 48 0)) rfl (fun x s' hx => .of_eq rfl) (fun x => by kernel_rfl) ?_
  intro x dx L s1 A' H1 R
  conv in fBody _ => whnf
  walk_at "R"
  exact ⟨rfl, h _ _ _ _ (by walk_at "arr")⟩
theorem mk_Vector (X : Base (K0 P) B) (hA : Room A 2) (H : St B f N s) {kv iv : Value} {Q : Value → Shared → Prop}
    (h : ∀ x dx s', St B f ((x, IsInst 321 dx) :: (dx, DictIs w.params [("kind", kv), ("items", iv), ("attrs", .none), ("shared", .bool false), ("loose", .bool false)]) :: N) s' → Q (.ref x) s') : Wp prog w A (call (.ref 321) [kv, iv]) Q s := by
  refine W_new (fun x => [("attrs", .none), ("items", iv), ("kind", kv), ("self", .ref x)]) X (nk_Vector P) (n := 0) hA (fn_Vector_init X) H (body := fBody (sc 49 0)) rfl
    (fun x s' hx => .of_defaults (T := 304) rfl (hx 304 _ (by kernel_rfl : (K0 P).lookup 304 = some (o304 P))) rfl rfl rfl) (fun x => by kernel_rfl) ?_
  intro x dx L s1 A' H1 R
  conv in fBody _ => whnf
  walk_at "R"
  exact ⟨rfl, h _ _ _ (by walk_at "arr")⟩
theorem mk_Symbol (X : Base (K0 P) B) (hA : Room A 2) (H : St B f N s) {nv : Value} {Q : Value → Shared → Prop}
    (h : ∀ x dx t s', St B f ((x, IsInst 342 dx) :: (dx, DictIs w.params [("kind", .str "symbol" t), ("name", nv), ("attrs", .none)]) :: N) s' → Q (.ref x) s') : Wp prog w A (call (.ref 342) [nv]) Q s := by
  refine W_new (fun x => [("name", nv), ("self", .ref x)]) X (nk_Symbol P) (n := 0) hA (fn_Symbol_init X) H (body := fBody (sc 50 0)) rfl (fun x s' hx => .of_eq rfl) (fun x => by kernel_rfl) ?_
  intro x dx L s1 A' H1 R
  conv in fBody _ => whnf
  walk_at "R"
  exact ⟨rfl, h _ _ _ _ (by walk_at "arr")⟩
theorem mk_NameRow (X : Base (K0 P) B) (hA : Room A 2) (H : St B f N s) {Q : Value → Shared → Prop}
    (h : ∀ x dx l t1 t2 s', St B f ((x, IsInst 534 dx) :: (dx, DictIs w.params [("names", .ref l), ("number", .int 0 t1), ("count", .int 0 t2)]) :: (l, IsLst []) :: N) s' → Q (.ref x) s') : Wp prog w A (call (.ref 534) []) Q s := by
  refine W_new (fun x => [("self", .ref x)]) X (nk_NameRow P) (n := 0) hA (fn_NameRow_init X) H (body := fBody (sc 80 0)) rfl (fun x s' hx => .of_eq rfl) (fun x => by kernel_rfl) ?_
  intro x dx L s1 A' H1 R
  conv in fBody _ => whnf
  walk_at "R"
  exact ⟨rfl, h _ _ _ _ _ _ (by walk_at "arr")⟩
end
section
variable {prog : Program} {w : World} {P : Params} {B : Shared} {f : Heap} {N : Led} {s : Shared} {A : Around}
noncomputable def IsMug (sa : Addr) : Pd := fun o => ∃ c t, 0 ≤ c ∧ LstW #[.int c t, .ref sa] o
noncomputable def IsScript : Pd := fun o => ∃ vs, (vs.length ≤ 90 ∧ ∀ v ∈ vs, ∃ i t, v = .int i t) ∧ IsLst vs o
theorem gulp_ok (X : Base (K0 P) B) (hA : Room A 1) {m sa : Addr} {k : Int} {t : Tok} (H : St B f ((m, IsMug sa) :: N) s) (hs : At f sa IsScript) (hk : 0 < k) {Q : Value → Shared → Prop}
    (h : ∀ i t s', 0 ≤ i → i < k → St B f ((m, IsMug sa) :: N) s' → Q (.int i t) s') : Wp prog w A (call (.ref 632) [.ref m, .int k t]) Q s := by
  refine W_enter [("limit", .int k t), ("mug", .ref m)] hA (fn_law_gulp X) X.lim H (body := fBody (st 95)) rfl (.of_eq rfl) (by kernel_rfl) ?_
  intro L s1 H1 R
  conv in fBody _ => whnf
  replace H1 := H1.p1
  obtain ⟨c, H1⟩ := H1.ex
  obtain ⟨tc, H1⟩ := H1.ex
  obtain ⟨hc, H1⟩ := H1.an
  obtain ⟨oS, hoS, vs, ⟨hv1, hv2⟩, hv3⟩ := hs
  have hsl : At f sa (LstW vs.toArray) := ⟨oS, hoS, hv3.w⟩
  walk_at "R"
  refine W_set0 (by walk_at "pull") ?_
  intro s5 H5
  walk_at "R"
  refine W_len (by assumption) (St.at (by assumption) hsl).isList (by simp; lia) ?_
  intro t8 s8 H8
  walk_at "R"
  split
  · walk_at "R"
    rename_i H9
    exact h _ _ _ (by decide) hk (H9.p1.drop.imp fun o ho => ⟨_, _, by lia, ho⟩)
  · rename_i hle
    simp at hle
    walk_at "R"
    obtain ⟨i, ti, hi⟩ := hv2 (vs[c.toNat]'(by lia)) (List.getElem_mem _)
    refine W_item (x := .int i ti) (St.at (by assumption) hsl).isList (by lia) (by lia) ?_ ?_
    · simp only [List.getElem?_toArray]
      rw [← hi, show (c + 1 - 1) = c by lia, List.getElem?_eq_getElem (by lia)]
    walk_at "R"
    refine W_mod (by assumption) (by lia) ?_
    intro t9 s9 H9
    exact h _ _ _ (Int.fmod_nonneg_of_pos _ hk) (Int.fmod_lt_of_pos _ hk) (H9.p1.drop.imp fun o ho => ⟨_, _, by lia, ho⟩)
theorem tag_ok (X : Base (K0 P) B) (hA : Room A 2) {m sa : Addr} (H : St B f ((m, IsMug sa) :: N) s) (hs : At f sa IsScript) {Q : Value → Shared → Prop}
    (h : ∀ n v s', OkNm n → IsNm n v → St B f ((m, IsMug sa) :: N) s' → Q v s') : Wp prog w A (call (.ref 639) [.ref m]) Q s := by
  refine W_enter [("mug", .ref m)] hA (fn_law_tag X) X.lim H (body := fBody (st 96)) rfl (.of_eq rfl) (by kernel_rfl) ?_
  intro L s1 H1 R
  conv in fBody _ => whnf
  walk_at "R"
  refine gulp_ok X R (by walk_at "pull") hs (by decide) ?_
  intro i t s3 hi0 hi4 H3
  have hi : i = 0 ∨ i = 1 ∨ i = 2 ∨ i = 3 := by lia
  have fin : ∀ n v, OkNm n → IsNm n v → Q v s3 := fun n v h1 h2 => h n v s3 h1 h2 (by walk_at "arr")
  rcases hi with rfl | rfl | rfl | rfl
  · exact W_get0 (H3.mem (by walk_at "mem")).lst (fin (some _) _ (by intro x e; cases e; decide +kernel) ⟨_, rfl⟩)
  · exact W_get1 (H3.mem (by walk_at "mem")).lst (fin (some _) _ (by intro x e; cases e; decide +kernel) ⟨_, rfl⟩)
  · exact W_get2 (H3.mem (by walk_at "mem")).lst (fin (some _) _ (by intro x e; cases e; decide +kernel) ⟨_, rfl⟩)
  · exact W_get3 (H3.mem (by walk_at "mem")).lst (fin none _ (by intro x e; cases e) rfl)
end
section
variable {prog : Program} {w : World} {P : Params} {B : Shared} {f : Heap} {N : Led} {s : Shared} {A : Around}
noncomputable def rowKd (i : Int) : Kd := if i = 0 then .lg else if i = 1 then .it else .ch
noncomputable def treeKd (i : Int) : Kd := if i = 0 then .ls else if i = 1 then .pl else .ex
theorem plan_step (X : Base (K0 P) B) {m sa : Addr} (d : Nat) (ih : ∀ e, d = e + 1 → ∀ {A : Around} {f : Heap} {N : Led} {s : Shared} {t : Tok} {Q : Value → Shared → Prop}, Room A (e + 3) → St B f ((m, IsMug sa) :: N) s → At f sa IsScript →
    (∀ p v f' s', Le f f' → OkPlan e p → IsPlan f' e p v → St B f' ((m, IsMug sa) :: N) s' → Q v s') → Wp prog w A (call (.ref 644) [.ref m, .int e t]) Q s)
    {A : Around} {f : Heap} {N : Led} {s : Shared} {t : Tok} {Q : Value → Shared → Prop} (hA : Room A (d + 3)) (H : St B f ((m, IsMug sa) :: N) s) (hs : At f sa IsScript)
    (h : ∀ p v f' s', Le f f' → OkPlan d p → IsPlan f' d p v → St B f' ((m, IsMug sa) :: N) s' → Q v s') : Wp prog w A (call (.ref 644) [.ref m, .int d t]) Q s := by
  refine W_enterC [("mug", .ref m), ("deep", .int d t)] [] [("deep", .int d t), ("mug", .ref m)] (fun L => [(L + 3, IsCellN), (L + 2, IsCellO (.int d t)), (L + 1, IsCellO (.ref m))]) hA (fn_law_plan X) X.lim H (body := fBody (st 97)) rfl rfl (by kernel_rfl) (fun L => by kernel_rfl) (by kernel_rfl) (by kernel_rfl) (fun L => by kernel_rfl) ["rows", "deep", "mug"] (fun L => by kernel_rfl) (by decide +kernel) ?_
  intro L s1 H1 R
  have kc1 : (callEnvC F644 L 644).cells.lookup (Str.ofString "mug") = some (L + 1) := by kernel_rfl
  have kc2 : (callEnvC F644 L 644).cells.lookup (Str.ofString "deep") = some (L + 2) := by kernel_rfl
  have kc3 : (callEnvC F644 L 644).cells.lookup (Str.ofString "rows") = some (L + 3) := by kernel_rfl
  replace H1 : St B f ((L, HasVars []) :: (L + 3, IsCellN) :: (L + 2, IsCellO (.int d t)) :: (L + 1, IsCellO (.ref m)) :: (m, IsMug sa) :: N) s1 := H1
  conv in fBody _ => whnf
  walk_at "R"
  refine Wp.monoG (Q := fun v s' => ∃ k t', v = Value.int k t' ∧ (k = 5 ∨ k = 8 ∧ 0 < d) ∧ St B f ((L, HasVars []) :: (L + 3, IsCellN) :: (L + 2, IsCellO (.int d t)) :: (L + 1, IsCellO (.ref m)) :: (m, IsMug sa) :: N) s') ?_ ?_
  · intro Q1 hn
    refine W_IfExp ?_
    walk_at "R"
    split
    · rename_i hd
      walk_at "R"
      exact ⟨_, _, rfl, .inr ⟨rfl, by simpa using hd⟩, by walk_at "arr"⟩
    · walk_at "R"
      exact ⟨_, _, rfl, .inl rfl, by walk_at "arr"⟩
  rintro v s2 ⟨k, t', rfl, hk, H2⟩
  walk_at "R"
  refine gulp_ok X (R.le (by lia)) (by walk_at "pull") hs (by lia) ?_
  intro i ti s3 hi0 hik H3
  walk_at "R"
  have fin : ∀ (p : Plan) (a : Addr) (vs : List Value) (s' : Shared) (l : List (Str × Value)) (v3 : Pd) (f1 : Heap), Le f f1 → OkPlan d p → (∀ f2, Le f1 f2 → At f2 a (IsLst vs) → IsPlan f2 d p (.ref a)) →
      St B f1 ((a, IsLst vs) :: (L, HasVars l) :: (L + 3, v3) :: (L + 2, IsCellO (.int d t)) :: (L + 1, IsCellO (.ref m)) :: (m, IsMug sa) :: N) s' → Q (.ref a) s' := by
    intro p a vs s' l v3 f1 hl ho hp H'
    obtain ⟨f2, h1, h2, h3⟩ := H'.freeze
    exact h p _ f2 s' (hl.trans h1) ho (hp f2 h1 h3) (by walk_at "arr")
  split
  · walk_at "R"
    exact fin .nothing _ _ _ _ _ f (Le.refl f) (OkPlan_nothing d) (fun f2 _ ha => IsPlan_nothing ▸ ⟨_, _, rfl, ha⟩) (by walk_at "arr")
  walk_at "R"
  split
  · walk_at "R"
    exact fin .name _ _ _ _ _ f (Le.refl f) (OkPlan_name d) (fun f2 _ ha => IsPlan_name ▸ ⟨_, _, rfl, ha⟩) (by walk_at "arr")
  walk_at "R"
  refine gulp_ok X (R.le (by lia)) (by walk_at "pull") hs (by lia) ?_
  intro many tm s4 hm0 hm4 H4
  obtain ⟨mn, rfl⟩ := Int.eq_ofNat_of_zero_le hm0
  walk_at "R"
  refine gulp_ok X (R.le (by lia)) (by walk_at "pull") hs (by lia) ?_
  intro tg tt s5 ht0 ht2 H5
  walk_at "R"
  split
  · rename_i hi3
    have hi3' : i < 3 := by simpa using hi3
    walk_at "R"
    -- rows
    refine Wp.monoG (Q := fun v s' => ∃ r a0 a1 a2 y0 y1 y2, v = Value.ref r ∧ IsIt y0 a0 ∧ IsIt y1 a1 ∧ IsIt y2 a2 ∧ OkIt (rowKd i) y0 ∧ OkIt (rowKd i) y1 ∧ OkIt (rowKd i) y2 ∧
      St B f ((r, IsLst [a0, a1, a2]) :: (L, HasVars [("tagged_so", .bool (tg == 1)), ("many", .int (mn : Int) tm), ("kind", .int i ti)]) :: (L + 3, IsCellN) :: (L + 2, IsCellO (.int d t)) :: (L + 1, IsCellO (.ref m)) :: (m, IsMug sa) :: N) s') ?_ ?_
    · intro Q1 hn
      walk_at "R"
      have hi : i = 0 ∨ i = 1 ∨ i = 2 := by lia
      rcases hi with rfl | rfl | rfl
      · walk_at "R"
        exact ⟨_, _, _, _, .i 1, .i 0, .no, rfl, ⟨_, rfl⟩, ⟨_, rfl⟩, rfl, .inr rfl, .inl rfl, trivial, by walk_at "arr"⟩
      · walk_at "R"
        exact ⟨_, _, _, _, .i 5, .no, .i 12, rfl, ⟨_, rfl⟩, rfl, ⟨_, rfl⟩, .inl rfl, trivial, .inr rfl, by walk_at "arr"⟩
      · walk_at "R"
        exact ⟨_, _, _, _, .s (Str.ofString "u"), .s (Str.ofString "v"), .no, rfl, ⟨_, rfl⟩, ⟨_, rfl⟩, rfl, (by decide +kernel : _ ≤ 1), (by decide +kernel : _ ≤ 1), trivial, by walk_at "arr"⟩
    rintro v s6 ⟨r, a0, a1, a2, y0, y1, y2, rfl, g0, g1, g2, q0, q1, q2, H6⟩
    walk_at "R"
    refine W_Assign_ListComp (cl := [(Str.ofString "rows", L + 3), (Str.ofString "mug", L + 1)]) (by kernel_rfl) (by kernel_rfl) ?_
    walk_at "R"
    refine W_iter_range (by walk_at "pull") R.hh (by lia) ?_
    intro it s7 I7 H7
    refine W_compAG (by kernel_rfl) I7 (fun j f' N' vs => f = f' ∧ (∃ its : List It, All2 IsIt its vs ∧ its.length = j ∧ ∀ x ∈ its, OkIt (rowKd i) x) ∧ N' = (r, IsLst [a0, a1, a2]) :: (L, HasVars [("tagged_so", .bool (tg == 1)), ("many", .int (mn : Int) tm), ("kind", .int i ti)]) :: (L + 3, IsCellO (.ref r)) :: (L + 2, IsCellO (.int d t)) :: (L + 1, IsCellO (.ref m)) :: (m, IsMug sa) :: N) (by walk_at "arr") (Le.refl f) ⟨rfl, ⟨[], .nil, rfl, fun _ h => nomatch h⟩, rfl⟩ ?_ (by kernel_rfl) ?_
    · rintro Q1 C acc j f' N' vs l s8 v hn hj hl ⟨rfl, ⟨its, hits, hlen, hok⟩, rfl⟩ ⟨tv, rfl⟩ H8
      walk_at "R"
      refine gulp_ok X (R.le (by lia)) (by walk_at "pull") hs (by lia) ?_
      intro z tz s9 hz0 hz3 H9
      have key : ∀ y av, IsIt y av → OkIt (rowKd i) y → ∃ f'' N'' l', Le f f'' ∧ (f = f'' ∧ (∃ its : List It, All2 IsIt its (vs ++ [av]) ∧ its.length = j + 1 ∧ ∀ x ∈ its, OkIt (rowKd i) x) ∧ N'' = (r, IsLst [a0, a1, a2]) :: (L, HasVars [("tagged_so", .bool (tg == 1)), ("many", .int (mn : Int) tm), ("kind", .int i ti)]) :: (L + 3, IsCellO (.ref r)) :: (L + 2, IsCellO (.int d t)) :: (L + 1, IsCellO (.ref m)) :: (m, IsMug sa) :: N) ∧ vs.length < 100000 ∧ St B f'' ((C, HasVars l') :: (acc, IsLst vs) :: (it, ItRange mn (j + 1)) :: N'') s9 := by
        intro y av hy hok'
        refine ⟨f, _, _, Le.refl _, ⟨rfl, ⟨its ++ [y], hits.snoc hy, by simp [hlen], fun x hx => ?_⟩, rfl⟩, by have := hits.length; lia, by walk_at "arr"⟩
        rcases List.mem_append.mp hx with hx | hx
        · exact hok x hx
        · rw [List.mem_singleton.mp hx]; exact hok'
      have hz : z = 0 ∨ z = 1 ∨ z = 2 := by lia
      rcases hz with rfl | rfl | rfl
      · walk_at "R"
        exact key _ _ g0 q0
      · walk_at "R"
        exact key _ _ g1 q1
      · walk_at "R"
        exact key _ _ g2 q2
    · rintro acc f' N' vs s8 hl ⟨rfl, ⟨its, hits, hlen, hok⟩, rfl⟩ H8
      refine ⟨_, _, Sel.cons (by walk_at "ext") Sel.refl, ?_⟩
      intro s9 H9
      obtain ⟨f1, le1, H10, hits1⟩ := (show St B f ((acc, IsLst vs) :: (L, HasVars [("items", .ref acc), ("tagged_so", .bool (tg == 1)), ("many", .int (mn : Int) tm), ("kind", .int i ti)]) :: (L + 3, IsCellO (.ref r)) :: (L + 2, IsCellO (.int d t)) :: (L + 1, IsCellO (.ref m)) :: (m, IsMug sa) :: N) s9 by walk_at "arr").freeze
      have hs1 := hs.mono le1
      walk_at "R"
      refine Wp.monoG (Q := fun v s' => ∃ fz hd, Le f1 fz ∧ OkHeads mn hd ∧ IsHeads fz hd v ∧ St B fz ((L, HasVars [("items", .ref acc), ("tagged_so", .bool (tg == 1)), ("many", .int (mn : Int) tm), ("kind", .int i ti)]) :: (L + 3, IsCellO (.ref r)) :: (L + 2, IsCellO (.int d t)) :: (L + 1, IsCellO (.ref m)) :: (m, IsMug sa) :: N) s') ?_ ?_
      · intro Q1 hn
        refine W_IfExp ?_
        walk_at "R"
        split
        · refine W_ListComp (cl := [(Str.ofString "mug", L + 1)]) (by kernel_rfl) (by kernel_rfl) ?_
          walk_at "R"
          refine W_iter_range (by walk_at "pull") R.hh (by lia) ?_
          intro it s7 I7 H7
          refine W_compG (by kernel_rfl) I7 (fun j f' N' vs => f1 = f' ∧ (∃ hl : List Nm, All2 IsNm hl vs ∧ hl.length = j ∧ ∀ x ∈ hl, OkNm x) ∧ N' = (L, HasVars [("items", .ref acc), ("tagged_so", .bool (tg == 1)), ("many", .int (mn : Int) tm), ("kind", .int i ti)]) :: (L + 3, IsCellO (.ref r)) :: (L + 2, IsCellO (.int d t)) :: (L + 1, IsCellO (.ref m)) :: (m, IsMug sa) :: N) (by walk_at "arr") (Le.refl _) ⟨rfl, ⟨[], .nil, rfl, fun _ h => nomatch h⟩, rfl⟩ ?_ ?_
          · rintro Q1 C acc j f' N' vs l s8 v hn hj hl ⟨rfl, ⟨hl', k1, k2, k3⟩, rfl⟩ ⟨tv, rfl⟩ H8
            walk_at "R"
            refine tag_ok X (R.le (by lia)) (by walk_at "pull") hs1 ?_
            intro n nv s9 hnv hv H9; refine hn _ _ ?_
            refine ⟨_, _, _, Le.refl _, ⟨rfl, ⟨hl' ++ [n], k1.snoc hv, by simp [k2], fun x hx => ?_⟩, rfl⟩, by have := k1.length; lia, by walk_at "arr"⟩
            rcases List.mem_append.mp hx with hx | hx
            · exact k3 x hx
            · rw [List.mem_singleton.mp hx]; exact hnv
          · rintro acc f' N' vs s8 hl ⟨rfl, ⟨hl', k1, k2, k3⟩, rfl⟩ H8
            obtain ⟨f1, g1, g2, g3⟩ := H8.freeze
            exact hn _ _ ⟨f1, some hl', g1, (by intro l e; cases e; exact ⟨k2, k3⟩), ⟨acc, vs, rfl, g3, k1⟩, by walk_at "arr"⟩
        · walk_at "R"
          exact ⟨_, none, Le.refl _, (fun _ e => nomatch e), rfl, by walk_at "arr"⟩
      rintro v s11 ⟨f2, hd, le2, hhd, hhv, H11⟩
      walk_at "R"
      refine Wp.monoG (Q := fun u s' => ∃ t', u = .str (rowKd i).s t' ∧ St B f2 ((L, HasVars [("heads", v), ("items", .ref acc), ("tagged_so", .bool (tg == 1)), ("many", .int (mn : Int) tm), ("kind", .int i ti)]) :: (L + 3, IsCellO (.ref r)) :: (L + 2, IsCellO (.int d t)) :: (L + 1, IsCellO (.ref m)) :: (m, IsMug sa) :: N) s') ?_ ?_
      · intro Q1 hn
        have hi : i = 0 ∨ i = 1 ∨ i = 2 := by lia
        rcases hi with rfl | rfl | rfl <;> walk_at "R"
        all_goals exact ⟨_, rfl, by walk_at "arr"⟩
      · rintro u s12 ⟨t', rfl, H12⟩
        walk_at "R"
        refine fin (.row (rowKd i) its hd) _ _ _ _ _ f2 (le1.trans le2) (OkPlan_row ▸ ⟨?_, ?_, hok, hlen.symm ▸ hhd⟩) (fun f3 le3 ha => IsPlan_row ▸ ⟨_, _, _, _, rfl, ha, ⟨_, _, rfl, At.mono hits1 (le2.trans le3), hits⟩, hhv.mono le3⟩) (by walk_at "arr")
        · simp only [rowKd]; split
          · rfl
          · split <;> rfl
        · lia
  · rename_i hi3
    have hi3' : ¬ i < 3 := by simpa using hi3
    have hi34 : i ≠ 3 ∧ i ≠ 4 := by simp_all
    obtain ⟨e, rfl⟩ : ∃ e, d = e + 1 := ⟨d - 1, by lia⟩
    walk_at "R"
    refine Wp.monoG (Q := fun v s' => ∃ fz hd, Le f fz ∧ OkHeads mn hd ∧ IsHeads fz hd v ∧ St B fz ((L, HasVars [("tagged_so", .bool (tg == 1)), ("many", .int (mn : Int) tm), ("kind", .int i ti)]) :: (L + 3, IsCellN) :: (L + 2, IsCellO (.int ((e + 1 : Nat) : Int) t)) :: (L + 1, IsCellO (.ref m)) :: (m, IsMug sa) :: N) s') ?_ ?_
    · intro Q1 hn
      refine W_IfExp ?_
      walk_at "R"
      split
      · refine W_ListComp (cl := [(Str.ofString "mug", L + 1)]) (by kernel_rfl) (by kernel_rfl) ?_
        walk_at "R"
        refine W_iter_range (by walk_at "pull") R.hh (by lia) ?_
        intro it s7 I7 H7
        refine W_compG (by kernel_rfl) I7 (fun j f' N' vs => f = f' ∧ (∃ hl : List Nm, All2 IsNm hl vs ∧ hl.length = j ∧ ∀ x ∈ hl, OkNm x) ∧ N' = (L, HasVars [("tagged_so", .bool (tg == 1)), ("many", .int (mn : Int) tm), ("kind", .int i ti)]) :: (L + 3, IsCellN) :: (L + 2, IsCellO (.int ((e + 1 : Nat) : Int) t)) :: (L + 1, IsCellO (.ref m)) :: (m, IsMug sa) :: N) (by walk_at "arr") (Le.refl _) ⟨rfl, ⟨[], .nil, rfl, fun _ h => nomatch h⟩, rfl⟩ ?_ ?_
        · rintro Q1 C acc j f' N' vs l s8 v hn hj hl ⟨rfl, ⟨hl', k1, k2, k3⟩, rfl⟩ ⟨tv, rfl⟩ H8
          walk_at "R"
          refine tag_ok X (R.le (by lia)) (by walk_at "pull") hs ?_
          intro n nv s9 hnv hv H9; refine hn _ _ ?_
          refine ⟨_, _, _, Le.refl _, ⟨rfl, ⟨hl' ++ [n], k1.snoc hv, by simp [k2], fun x hx => ?_⟩, rfl⟩, by have := k1.length; lia, by walk_at "arr"⟩
          rcases List.mem_append.mp hx with hx | hx
          · exact k3 x hx
          · rw [List.mem_singleton.mp hx]; exact hnv
        · rintro acc f' N' vs s8 hl ⟨rfl, ⟨hl', k1, k2, k3⟩, rfl⟩ H8
          obtain ⟨f1, g1, g2, g3⟩ := H8.freeze
          exact hn _ _ ⟨f1, some hl', g1, (by intro l e; cases e; exact ⟨k2, k3⟩), ⟨acc, vs, rfl, g3, k1⟩, by walk_at "arr"⟩
      · walk_at "R"
        exact ⟨_, none, Le.refl _, (fun _ e => nomatch e), rfl, by walk_at "arr"⟩
    rintro v s11 ⟨f2, hd, le2, hhd, hhv, H11⟩
    have hs2 := hs.mono le2
    walk_at "R"
    refine Wp.monoG (Q := fun u s' => ∃ t', u = .str (treeKd (i - 5)).s t' ∧ St B f2 ((L, HasVars [("heads", v), ("tagged_so", .bool (tg == 1)), ("many", .int (mn : Int) tm), ("kind", .int i ti)]) :: (L + 3, IsCellN) :: (L + 2, IsCellO (.int ((e + 1 : Nat) : Int) t)) :: (L + 1, IsCellO (.ref m)) :: (m, IsMug sa) :: N) s') ?_ ?_
    · intro Q1 hn
      have hi : i = 5 ∨ i = 6 ∨ i = 7 := by lia
      rcases hi with rfl | rfl | rfl <;> walk_at "R"
      · exact W_get0 (St.mem (by assumption) (by walk_at "mem")).lst (hn _ _ ⟨_, rfl, by walk_at "arr"⟩)
      · exact W_get1 (St.mem (by assumption) (by walk_at "mem")).lst (hn _ _ ⟨_, rfl, by walk_at "arr"⟩)
      · exact W_get2 (St.mem (by assumption) (by walk_at "mem")).lst (hn _ _ ⟨_, rfl, by walk_at "arr"⟩)
    · rintro u s12 ⟨t', rfl, H12⟩
      walk_at "R"
      refine W_ListComp (cl := [(Str.ofString "mug", L + 1), (Str.ofString "deep", L + 2)]) (by kernel_rfl) (by kernel_rfl) ?_
      walk_at "R"
      refine W_iter_range (by walk_at "pull") R.hh (by lia) ?_
      intro it s7 I7 H7
      refine W_compG (by kernel_rfl) I7 (fun j f' N' vs => (∃ ps : List Plan, All2 (IsPlan f' e) ps vs ∧ ps.length = j ∧ ∀ p ∈ ps, OkPlan e p) ∧ N' = (L, HasVars [("heads", v), ("tagged_so", .bool (tg == 1)), ("many", .int (mn : Int) tm), ("kind", .int i ti)]) :: (L + 3, IsCellN) :: (L + 2, IsCellO (.int ((e + 1 : Nat) : Int) t)) :: (L + 1, IsCellO (.ref m)) :: (m, IsMug sa) :: N) (by walk_at "arr") (Le.refl _) ⟨⟨[], .nil, rfl, fun _ h => nomatch h⟩, rfl⟩ ?_ ?_
      · rintro Q1 C acc j f' N' vs l s8 v hn hj hl ⟨⟨ps, k1, k2, k3⟩, rfl⟩ ⟨tv, rfl⟩ H8
        walk_at "R"
        rename_i HH
        refine (show (((e + 1 : Nat) : Int) - 1) = (e : Int) by lia) ▸ ih e rfl (R.le (by lia)) (by walk_at "pull") (hs2.mono hl) ?_
        intro p pv f3 s9 hl3 hpo hp H9; refine hn _ _ ?_
        refine ⟨f3, _, _, hl.trans hl3, ⟨⟨ps ++ [p], All2.snoc (k1.imp fun _ _ _ h => h.mono hl3) hp, by simp [k2], fun x hx => ?_⟩, rfl⟩, by have := k1.length; lia, by walk_at "arr"⟩
        rcases List.mem_append.mp hx with hx | hx
        · exact k3 x hx
        · rw [List.mem_singleton.mp hx]; exact hpo
      · rintro acc f' N' vs s8 hl ⟨⟨ps, k1, k2, k3⟩, rfl⟩ H8
        obtain ⟨f3, g1, g2, g3⟩ := H8.freeze
        walk_at "R"
        refine fin (.tree (treeKd (i - 5)) ps hd) _ _ _ _ _ f3 (le2.trans (hl.trans g1)) ⟨?_, by lia, k3, k2.symm ▸ hhd⟩ (fun f4 le4 ha => ⟨_, _, _, _, rfl, ha, ⟨_, _, rfl, At.mono g3 le4, k1.imp fun _ _ _ h => h.mono (g1.trans le4)⟩, hhv.mono (hl.trans (g1.trans le4))⟩) (by walk_at "arr")
        simp only [treeKd]; split
        · rfl
        · split <;> rfl
theorem plan_ok (X : Base (K0 P) B) {m sa : Addr} : ∀ (d : Nat) {A : Around} {f : Heap} {N : Led} {s : Shared} {t : Tok} {Q : Value → Shared → Prop}, Room A (d + 3) → St B f ((m, IsMug sa) :: N) s → At f sa IsScript →
    (∀ p v f' s', Le f f' → OkPlan d p → IsPlan f' d p v → St B f' ((m, IsMug sa) :: N) s' → Q v s') → Wp prog w A (call (.ref 644) [.ref m, .int d t]) Q s := by
  intro d
  induction d with
  | zero => exact fun hA H hs h => plan_step X 0 (fun e he => by lia) hA H hs h
  | succ d ih =>
    intro A f N s t Q hA H hs h
    exact plan_step X (d + 1) (fun e he => by cases he; exact fun hA H hs h => ih hA H hs h) hA H hs h
end
theorem nm_MOST_LENGTH (P : Params) : nsIn (K0 P) mainGlobals (Str.ofString "MOST_LENGTH") = some (some (.int 1000000 565)) := by kernel_rfl
theorem nm_MOST_DEPTH (P : Params) : nsIn (K0 P) mainGlobals (Str.ofString "MOST_DEPTH") = some (some (.int 200 873)) := by kernel_rfl
theorem kd_lang (k : Kd) : (k.s == Str.ofString "language") = false := by cases k <;> decide +kernel
theorem kd_env (k : Kd) : (k.s == Str.ofString "environment") = false := by cases k <;> decide +kernel
noncomputable def Kd.isNu : Kd → Bool
  | .nu => true
  | _ => false
theorem kd_null (k : Kd) : (k.s == Str.ofString "NULL") = k.isNu := by cases k <;> decide +kernel
theorem kd_nnull (k : Kd) : (k.s != Str.ofString "NULL") = !k.isNu := by cases k <;> decide +kernel
theorem byN {P : Nat → Prop} (step : ∀ n, (∀ e, n = e + 1 → P e) → P n) : ∀ n, P n
  | 0 => step 0 fun e he => by cases he
  | n + 1 => step (n + 1) fun e he => by cases he; exact byN step n
theorem kd_tree (k : Kd) : ([Str.ofString "list", Str.ofString "expression", Str.ofString "pairlist"].any (· == k.s)) = k.treeish := by cases k <;> decide +kernel
noncomputable def Plan.isVec : Plan → Bool
  | .row .. => true
  | .tree .. => true
  | _ => false
noncomputable def HasKind (w : World) (f : Heap) (v : Value) (k : Kd) : Prop := ∃ x dx C kvs t, v = .ref x ∧ At f x (IsInst C dx) ∧ At f dx (DictIs w.params kvs) ∧ Mp kvs (Str.ofString "kind") = some (.str k.s t) ∧ ∀ P, clsOK (K0 P) C (Str.ofString "kind") = true
section
variable {prog : Program} {w : World} {P : Params} {B : Shared} {f : Heap} {N : Led} {s : Shared} {A : Around} {env : Env}
theorem W_kind {v : Value} {k : Kd} {Q : Value → Shared → Prop} (X : Base (K0 P) B) (H : St B f N s) (hv : HasKind w f v k) (h : ∀ t s', St B f N s' → Q (.str k.s t) s') : Wp prog w A (getAttr v (Str.ofString "kind") true) Q s := by
  obtain ⟨x, dx, C, kvs, t, rfl, h1, h2, h3, h4⟩ := hv
  exact W_getattr X H (H.at h1) (h4 P) (H.at h2) h3 rfl (h t)
theorem HasKind.mono {f f' : Heap} {v : Value} {k : Kd} (h : HasKind w f v k) (hl : Le f f') : HasKind w f' v k := by
  obtain ⟨x, dx, C, kvs, t, h0, h1, h2, h3, h4⟩ := h
  exact ⟨x, dx, C, kvs, t, h0, h1.mono hl, h2.mono hl, h3, h4⟩
theorem IsVec.kind {x : Addr} {k : Kd} {iv av : Value} (h : IsVec w f x k iv av) : HasKind w f (.ref x) k := by
  obtain ⟨dx, t, b, c, h1, h2⟩ := h
  exact ⟨x, dx, _, _, t, rfl, h1, h2, Mp_hd, fun P => ck_Vector_kind P⟩
theorem IsVal.kind : ∀ {n : Nat} {p : Plan} {v : Value}, IsVal prog w f n p v → HasKind w f v p.kd := by
  intro n p v h
  cases p with
  | nothing => rw [IsVal_nothing] at h; obtain ⟨x, dx, t, rfl, h1, h2⟩ := h; exact ⟨x, dx, _, _, t, rfl, h1, h2, Mp_hd, fun P => ck_Null_kind P⟩
  | name => rw [IsVal_name] at h; obtain ⟨x, dx, t, nv, rfl, h1, h2⟩ := h; exact ⟨x, dx, _, _, t, rfl, h1, h2, Mp_hd, fun P => ck_Symbol_kind P⟩
  | row k its hd => rw [IsVal_row] at h; obtain ⟨x, iv, av, rfl, h1, h2⟩ := h; exact h1.kind
  | tree k kids hd =>
    cases n with
    | zero => exact h.elim
    | succ n => obtain ⟨x, iv, av, rfl, h1, h2⟩ := h; exact h1.kind
theorem isvec_ok (X : Base (K0 P) B) (hA : Room A 1) {n : Nat} {p : Plan} {v : Value} (H : St B f N s) (hv : IsVal prog w f n p v) {Q : Value → Shared → Prop} (h : ∀ s', St B f N s' → Q (.bool p.isVec) s') : Wp prog w A (call (.ref 388) [v]) Q s := by
  refine W_enter [("v", v)] hA (fn_is_vector X) X.lim H (body := fBody (st 56)) rfl (.of_eq rfl) (by kernel_rfl) ?_
  intro L s1 H1 R
  conv in fBody _ => whnf
  walk_at "R"
  have yes : ∀ x k iv av, v = .ref x → p.isVec = true → IsVec w f x k iv av → ∀ s2, St B f ((L, HasVars [("v", v)]) :: N) s2 → Wp prog w (A.deeper (callEnv F388 L 388)) (call (.builtin "isinstance") [v, .ref 321]) (fun v s => Q v s) s2 := by
    rintro x k iv av rfl hp ⟨dx, t, b, c, h1, h2⟩ s2 H2
    refine W_isVec X H2 (H2.at h1) (H2.at h2) fun s3 H3 => ?_
    rw [← hp]; exact h _ (by walk_at "arr")
  cases p with
  | nothing => rw [IsVal_nothing] at hv; obtain ⟨x, dx, t, rfl, h1, h2⟩ := hv; exact W_notVec (nv_Null P) X (by assumption) (St.at (by assumption) h1) (St.at (by assumption) h2) fun s3 H3 => h _ (by walk_at "arr")
  | name => rw [IsVal_name] at hv; obtain ⟨x, dx, t, nv, rfl, h1, h2⟩ := hv; exact W_notVec (nv_Symbol P) X (by assumption) (St.at (by assumption) h1) (St.at (by assumption) h2) fun s3 H3 => h _ (by walk_at "arr")
  | row k its hd => rw [IsVal_row] at hv; obtain ⟨x, iv, av, rfl, h1, h2⟩ := hv; exact yes _ _ _ _ rfl rfl h1 _ (by assumption)
  | tree k kids hd =>
    cases n with
    | zero => exact hv.elim
    | succ n => obtain ⟨x, iv, av, rfl, h1, h2⟩ := hv; exact yes _ _ _ _ rfl rfl h1 _ (by assumption)
theorem opens_ok (X : Base (K0 P) B) (hA : Room A 1) {k : Kd} {v : Value} {op : Bool} (H : St B f N s) (hv : HasKind w f v k) {Q : Value → Shared → Prop} (h : ∀ s', St B f N s' → Q (.bool (op && k.treeish)) s') : Wp prog w A (call (.ref 545) [v, .bool op]) Q s := by
  refine W_enter [("recurse", .bool op), ("v", v)] hA (fn_opens X) X.lim H (body := fBody (st 81)) rfl (.of_eq rfl) (by kernel_rfl) ?_
  intro L s1 H1 R
  conv in fBody _ => whnf
  walk_at "R"
  cases op with
  | false => rw [if_neg (by decide)]; exact h _ (by walk_at "arr")
  | true =>
    rw [if_pos rfl]
    walk_at "R"
    refine W_kind X (by assumption) hv fun t s2 H2 => ?_
    walk_at "R"
    rw [kd_tree]
    exact h _ (by walk_at "arr")
theorem room_ok (X : Base (K0 P) B) (hA : Room A 1) {n : Nat} {t : Tok} (hn : n ≤ 100000) (H : St B f N s) {Q : Value → Shared → Prop} (h : ∀ t s', St B f N s' → Q (.int n t) s') : Wp prog w A (call (.ref 353) [.int n t]) Q s := by
  refine W_enter [("n", .int n t)] hA (fn_room X) X.lim H (body := fBody (st 51)) rfl (.of_eq rfl) (by kernel_rfl) ?_
  intro L s1 H1 R
  conv in fBody _ => whnf
  walk_at "R"
  refine W_glob (by assumption) (by assumption) (by kernel_rfl) (nm_MOST_LENGTH _) ?_
  walk_at "R"
  rw [if_neg (by simp; lia)]
  walk_at "R"
  exact h _ _ (by walk_at "arr")
end
theorem va_names (v : Value) : (valueAt [(Str.ofString "names", v)] (Str.ofString "names")).getD .none = v := by simp [valueAt]
theorem va_dim (v : Value) : (valueAt [(Str.ofString "names", v)] (Str.ofString "dim")).getD .none = .none := by
  have : ¬ (Str.ofString "names" = Str.ofString "dim") := by decide +kernel
  simp [valueAt, this]
section
variable {prog : Program} {w : World} {P : Params} {B : Shared} {f : Heap} {N : Led} {s : Shared} {A : Around} {env : Env}
theorem getattr_ok (X : Base (K0 P) B) (hA : Room A 1) {x : Addr} {k : Kd} {iv av r : Value} {nm : Str} {t : Tok} (H : St B f N s) (hv : IsVec w f x k iv av)
    (hr : (av = .none ∧ r = .none) ∨ (∃ d c, av = .ref d ∧ (d == sysModules) = false ∧ At f d (AttrD prog w (.ref c)) ∧ (valueAt [(Str.ofString "names", (.ref c : Value))] nm).getD .none = r)) {Q : Value → Shared → Prop} (h : ∀ s', St B f N s' → Q r s') :
    Wp prog w A (call (.ref 28) [.ref x, .str nm t]) Q s := by
  refine W_enter [("name", .str nm t), ("v", .ref x)] hA (fn_get_attr X) X.lim H (body := fBody (st 2)) rfl (.of_eq rfl) (by kernel_rfl) ?_
  intro L s1 H1 R
  conv in fBody _ => whnf
  obtain ⟨dx, tk, b1, b2, h1, h2⟩ := hv
  rcases hr with ⟨rfl, rfl⟩ | ⟨d, c, rfl, hd, hat, hr⟩
  · walk_at "R"
    rw [if_pos (by decide)]
    walk_at "R"
    exact h _ (by walk_at "arr")
  · walk_at "R"
    rw [if_neg (by simp)]
    walk_at "R"
    refine W_gm_get (St.at (by assumption) hat) ?_
    walk_at "R"
    refine W_dget (by assumption) (St.at (by assumption) hat) hd _ rfl fun s2 H2 => ?_
    rw [hr]
    exact h _ (by walk_at "arr")
theorem dim_ok (X : Base (K0 P) B) (hA : Room A 2) {x : Addr} {k : Kd} {iv av : Value} {hd : Option (List Nm)} (H : St B f N s) (hv : IsVec w f x k iv av) (ha : IsAttrs prog w f hd av) {Q : Value → Shared → Prop} (h : ∀ s', St B f N s' → Q .none s') :
    Wp prog w A (call (.ref 40) [.ref x]) Q s := by
  refine W_enter [("v", .ref x)] hA (fn_dim_of X) X.lim H (body := fBody (st 4)) rfl (.of_eq rfl) (by kernel_rfl) ?_
  intro L s1 H1 R
  conv in fBody _ => whnf
  walk_at "R"
  refine getattr_ok X R (by assumption) hv (r := .none) ?_ fun s2 H2 => ?_
  · cases hd with
    | none => exact .inl ⟨ha, rfl⟩
    | some hs => obtain ⟨d, c, iv', av', rfl, h2, h3, _⟩ := ha; exact .inr ⟨d, c, rfl, h2, h3, va_dim _⟩
  walk_at "R"
  rw [if_pos (by decide)]
  walk_at "R"
  exact h _ (by walk_at "arr")
theorem names_ok (X : Base (K0 P) B) (hA : Room A 3) {x : Addr} {k : Kd} {iv av : Value} {hd : Option (List Nm)} (H : St B f N s) (hv : IsVec w f x k iv av) (ha : IsAttrs prog w f hd av) (hlen : ∀ hs, hd = some hs → hs.length ≤ 1000) {Q : Value → Shared → Prop}
    (h0 : hd = none → ∀ s', St B f N s' → Q .none s') (h1 : ∀ hs, hd = some hs → ∀ b us s', All2 IsNm hs us → St B f ((b, IsLst us) :: N) s' → Q (.ref b) s') :
    Wp prog w A (call (.ref 33) [.ref x]) Q s := by
  refine W_enter [("v", .ref x)] hA (fn_names_of X) X.lim H (body := fBody (st 3)) rfl (.of_eq rfl) (by kernel_rfl) ?_
  intro L s1 H1 R
  conv in fBody _ => whnf
  walk_at "R"
  refine W_kind X (by assumption) hv.kind fun t s2 H2 => ?_
  walk_at "R"
  rw [kd_lang, if_neg (by decide)]
  walk_at "R"
  refine W_kind X (by assumption) hv.kind fun t s2 H2 => ?_
  walk_at "R"
  rw [kd_env, if_neg (by decide)]
  walk_at "R"
  refine dim_ok X R (by assumption) hv ha fun s3 H3 => ?_
  walk_at "R"
  rw [if_neg (by decide)]
  rw [if_neg (by decide)]
  walk_at "R"
  cases hd with
  | none =>
    refine getattr_ok X (R.le (by lia)) (by assumption) hv (r := .none) (.inl ⟨ha, rfl⟩) fun s2 H2 => ?_
    walk_at "R"
    rw [if_pos (by decide)]
    walk_at "R"
    exact h0 rfl _ (by walk_at "arr")
  | some hs =>
    obtain ⟨d, c, iv', av', rfl, k2, k3, k4, a, vs, rfl, k5, k6⟩ := ha
    refine getattr_ok X (R.le (by lia)) (by assumption) hv (r := .ref c) (.inr ⟨d, c, rfl, k2, k3, va_names _⟩) fun s2 H2 => ?_
    walk_at "R"
    rw [if_neg (by simp)]
    obtain ⟨dx, tk, b1, b2, g1, g2⟩ := k4
    walk_at "R"
    have := hlen hs rfl
    refine W_listof (by assumption) (by walk_at "mem") (St.at (by assumption) k5) (by rw [← k6.length]; lia) fun b s4 H4 => ?_
    exact h1 hs rfl b vs _ k6 (by walk_at "arr")
theorem plain_ok (X : Base (K0 P) B) (hA : Room A 4) {x li : Addr} {k : Kd} {vs : List Value} {av : Value} {hd : Option (List Nm)} (H : St B f N s) (hv : IsVec w f x k (.ref li) av) (hli : At f li (IsLst vs)) (hvs : vs.length ≤ 1000) (ha : IsAttrs prog w f hd av) (hlen : ∀ hs, hd = some hs → hs.length ≤ 1000) {Q : Value → Shared → Prop}
    (h1 : ∀ b us s', All2 IsNm (hd.getD (List.replicate vs.length nm0)) us → St B f ((b, IsLst us) :: N) s' → Q (.ref b) s') :
    Wp prog w A (call (.ref 580) [.ref x]) Q s := by
  refine W_enter [("v", .ref x)] hA (fn_plain_names X) X.lim H (body := fBody (st 86)) rfl (.of_eq rfl) (by kernel_rfl) ?_
  intro L s1 H1 R
  conv in fBody _ => whnf
  walk_at "R"
  refine names_ok X R (by assumption) hv ha hlen ?_ ?_
  · rintro rfl s2 H2
    walk_at "R"
    rw [if_pos (by decide)]
    obtain ⟨dx, tk, b1, b2, g1, g2⟩ := hv
    walk_at "R"
    refine W_lenL (by assumption) (St.at (by assumption) hli) (by lia) fun t s3 H3 => ?_
    refine W_mulL (by assumption) (by walk_at "mem") (St.mem (by assumption) (by walk_at "mem")) (by lia) fun b s4 H4 => ?_
    refine h1 b _ _ ?_ (by walk_at "arr")
    show All2 IsNm (List.replicate vs.length nm0) (List.replicate vs.length _)
    generalize vs.length = m
    induction m with
    | zero => exact .nil
    | succ m ih => rw [List.replicate_succ, List.replicate_succ]; exact .cons ⟨_, rfl⟩ ih
  · rintro hs rfl b us s2 hus H2
    walk_at "R"
    rw [if_neg (by simp)]
    walk_at "R"
    exact h1 b us _ hus (by walk_at "arr")
theorem char_ok (X : Base (K0 P) B) (hA : Room A 3) {l : Addr} {us : List Value} (H : St B f N s) (hl : At f l (IsLst us)) (hus : us.length ≤ 1000) {Q : Value → Shared → Prop}
    (h : ∀ x dx b t s', St B f ((x, IsInst 321 dx) :: (dx, DictIs w.params [("kind", .str (Str.ofString "character") t), ("items", .ref b), ("attrs", .none), ("shared", .bool false), ("loose", .bool false)]) :: (b, IsLst us) :: N) s' → Q (.ref x) s') :
    Wp prog w A (call (.ref 367) [.ref l]) Q s := by
  refine W_enter [("items", .ref l)] hA (fn_character X) X.lim H (body := fBody (st 53)) rfl (.of_eq rfl) (by kernel_rfl) ?_
  intro L s1 H1 R
  conv in fBody _ => whnf
  walk_at "R"
  refine W_listof (by assumption) (by walk_at "mem") (St.at (by assumption) hl) (by lia) fun b s4 H4 => ?_
  walk_at "R"
  refine mk_Vector X R (by assumption) fun x dx s5 H5 => ?_
  exact h _ _ _ _ _ (by walk_at "arr")
theorem St.frz3 {a b c : Addr} {P1 P2 P3 : Pd} (H : St B f ((a, P1) :: (b, P2) :: (c, P3) :: N) s) : ∃ f', Le f f' ∧ St B f' N s ∧ At f' a P1 ∧ At f' b P2 ∧ At f' c P3 := by
  obtain ⟨f1, a1, H1, o1⟩ := H.freeze
  obtain ⟨f2, a2, H2, o2⟩ := H1.freeze
  obtain ⟨f3, a3, H3, o3⟩ := H2.freeze
  exact ⟨f3, a1.trans (a2.trans a3), H3, At.mono o1 (a2.trans a3), At.mono o2 a3, o3⟩
theorem named_ok (X : Base (K0 P) B) (hA : Room A 4) {x dx : Addr} {kv iv hv : Value} {b1 b2 : Bool} {hd : Option (List Nm)} (H : St B f ((x, IsInst 321 dx) :: (dx, DictIs w.params [("kind", kv), ("items", iv), ("attrs", .none), ("shared", .bool b1), ("loose", .bool b2)]) :: N) s)
    (hh : IsHeads f hd hv) (hlen : ∀ hs, hd = some hs → hs.length ≤ 1000) {Q : Value → Shared → Prop}
    (h : ∀ f' av s', Le f f' → IsAttrs prog w f' hd av → St B f' ((x, IsInst 321 dx) :: (dx, DictIs w.params [("kind", kv), ("items", iv), ("attrs", av), ("shared", .bool b1), ("loose", .bool b2)]) :: N) s' → Q (.ref x) s') :
    Wp prog w A (call (.ref 374) [.ref x, hv]) Q s := by
  refine W_enter [("names", hv), ("v", .ref x)] hA (fn_named X) X.lim H (body := fBody (st 54)) rfl (.of_eq rfl) (by kernel_rfl) ?_
  intro L s1 H1 R
  conv in fBody _ => whnf
  cases hd with
  | none =>
    cases hh
    walk_at "R"
    rw [if_neg (by decide)]
    walk_at "R"
    exact h f .none _ (Le.refl f) rfl (by walk_at "arr")
  | some hs =>
    obtain ⟨a, us, rfl, h1, h2⟩ := hh
    have := hlen hs rfl
    walk_at "R"
    rw [if_pos (by simp)]
    walk_at "R"
    refine W_dict1 X (by assumption) fun d s2 hd2 H2 => ?_
    walk_at "R"
    refine char_ok X R (by assumption) h1 (by rw [← h2.length]; lia) fun c dc b t s3 H3 => ?_
    obtain ⟨f1, le1, H4, k1, k2, k3⟩ := H3.frz3
    refine ⟨f1, _, H4, fun s5 H5 => ?_⟩
    walk_at "R"
    rename_i H6
    obtain ⟨f2, le2, H7, k4⟩ := (show St B f1 ((d, AttrD prog w (.ref c)) :: (x, IsInst 321 dx) :: (dx, DictIs w.params [("kind", kv), ("items", iv), ("attrs", .ref d), ("shared", .bool b1), ("loose", .bool b2)]) :: N) _ by walk_at "arr").freeze
    exact h f2 (.ref d) _ (le1.trans le2) ⟨d, c, .ref b, .none, rfl, hd2, k4, ⟨dc, t, false, false, k1.mono le2, k2.mono le2⟩, b, us, rfl, k3.mono le2, h2⟩ (by walk_at "arr")
theorem null_ok (X : Base (K0 P) B) (hA : Room A 3) (H : St B f N s) {Q : Value → Shared → Prop} (h : ∀ x f' s', Le f f' → (∀ n, IsVal prog w f' n .nothing (.ref x)) → St B f' N s' → Q (.ref x) s') : Wp prog w A (call (.ref 360) []) Q s := by
  refine W_enter [] hA (fn_null X) X.lim H (body := fBody (st 52)) rfl (.of_eq rfl) (by kernel_rfl) ?_
  intro L s1 H1 R
  conv in fBody _ => whnf
  walk_at "R"
  refine mk_Null X R (by assumption) fun x dx t s2 H2 => ?_
  obtain ⟨f1, a1, H3, o1⟩ := H2.freeze
  obtain ⟨f2, a2, H4, o2⟩ := H3.freeze
  exact h x f2 _ (a1.trans a2) (fun n => IsVal_nothing ▸ ⟨x, dx, t, rfl, At.mono o1 a2, o2⟩) (by walk_at "arr")
end
theorem nq1 {n : Nm} (h : (n == some (Str.ofString "")) = true) : n = nm0 := show n = some (Str.ofString "") by simpa using h
theorem nq2 {n : Nm} (h : (n == some (Str.ofString "")) = false) : n ≠ nm0 := show ¬ n = some (Str.ofString "") by simpa using h
theorem nq3 {n : Nm} (h : (n != some (Str.ofString "")) = false) : n = nm0 := show n = some (Str.ofString "") by simpa using h
theorem nq4 {n : Nm} (h : (n != some (Str.ofString "")) = true) : n ≠ nm0 := show ¬ n = some (Str.ofString "") by simpa using h
theorem isnm_none {n : Nm} {v : Value} (h : IsNm n v) : (v == .none) = n.isNone := by
  cases n with
  | none => cases h; rfl
  | some x => obtain ⟨t, rfl⟩ := h; rfl
theorem nt_length {n : Nat} (h : n < 100000) : (nt n).length ≤ 10 := by
  unfold nt
  rw [PySem.ofString_length]
  have := PySem.int_text_length_le10 (a := (n : Int)) (k := 5) (by decide) (by simpa using h)
  lia
theorem txt_jb (b t : Nm) : (txt (jb b t)).length ≤ (txt b).length + 1 + (txt t).length := by
  have h1 : (Str.ofString ".").length = 1 := by decide +kernel
  unfold jb
  split
  · simp only [txt, Option.getD_some, Str.length_append, h1]; lia
  · split <;> lia
theorem OkNm.len {n : Nm} (h : OkNm n) : (txt n).length ≤ 2 := by
  cases n with
  | none => show (Str.ofString "NA").length ≤ 2; decide +kernel
  | some x => have := h x rfl; show x.length ≤ 2; lia
noncomputable def Kd.in7 : Kd → Bool
  | .pl => false
  | .sy => false
  | _ => true
theorem kd_in7 (k : Kd) : ([Str.ofString "NULL", Str.ofString "logical", Str.ofString "integer", Str.ofString "double", Str.ofString "character", Str.ofString "list", Str.ofString "expression"].any (· == k.s)) = k.in7 := by cases k <;> decide +kernel
theorem kd_idx7 (k : Kd) (h : k.in7 = true) : [Str.ofString "NULL", Str.ofString "logical", Str.ofString "integer", Str.ofString "double", Str.ofString "character", Str.ofString "list", Str.ofString "expression"].idxOf k.s = rank k := by
  cases k <;> first | (cases h; done) | decide +kernel
theorem kd_mem7 (k : Kd) (h : k.in7 = true) : k.s ∈ [Str.ofString "NULL", Str.ofString "logical", Str.ofString "integer", Str.ofString "double", Str.ofString "character", Str.ofString "list", Str.ofString "expression"] := by
  cases k <;> first | (cases h; done) | decide +kernel
theorem kd_rank5 (k : Kd) (h : ¬ k.in7 = true) : rank k = 5 := by
  cases k <;> first | rfl | exact absurd rfl h
section
variable {prog : Program} {w : World} {P : Params} {B : Shared} {f : Heap} {N : Led} {s : Shared} {A : Around} {env : Env}
theorem inner_ok (X : Base (K0 P) B) (hA : Room A 1) {n : Nm} {v : Value} (H : St B f N s) (hv : IsNm n v) {Q : Value → Shared → Prop} (h : ∀ t s', St B f N s' → Q (.str (txt n) t) s') : Wp prog w A (call (.ref 559) [v]) Q s := by
  refine W_enter [("name", v)] hA (fn_inner_text X) X.lim H (body := fBody (st 83)) rfl (.of_eq rfl) (by kernel_rfl) ?_
  intro L s1 H1 R
  conv in fBody _ => whnf
  walk_at "R"
  refine W_IfExp ?_
  walk_at "R"
  cases n with
  | none =>
    cases hv
    rw [if_pos (by decide)]
    walk_at "R"
    exact h _ _ (by walk_at "arr")
  | some x =>
    obtain ⟨t, rfl⟩ := hv
    rw [if_neg (by simp)]
    walk_at "R"
    exact h _ _ (by walk_at "arr")
theorem jb_ok (X : Base (K0 P) B) (hA : Room A 2) {b t : Nm} {bv tv : Value} (H : St B f N s) (hb : IsNm b bv) (ht : IsNm t tv) (hlen : (txt b).length + (txt t).length ≤ 90000) {Q : Value → Shared → Prop} (h : ∀ v s', IsNm (jb b t) v → St B f N s' → Q v s') : Wp prog w A (call (.ref 566) [bv, tv]) Q s := by
  refine W_enter [("tag", tv), ("base", bv)] hA (fn_joined_base X) X.lim H (body := fBody (st 84)) rfl (.of_eq rfl) (by kernel_rfl) ?_
  intro L s1 H1 R
  conv in fBody _ => whnf
  walk_at "R"
  refine nm_ne hb ?_
  walk_at "R"
  have h1 : (Str.ofString ".").length = 1 := by decide +kernel
  cases hq1 : (b != some (Str.ofString ""))
  · walk_at "R"
    refine nm_ne ht ?_
    walk_at "R"
    have q1 : b = nm0 := by first | exact nq1 hq1 | exact nq2 hq1 | exact nq3 hq1 | exact nq4 hq1
    cases hq2 : (t != some (Str.ofString ""))
    · walk_at "R"
      refine h _ _ ?_ (by walk_at "arr")
      have q2 : t = nm0 := by first | exact nq1 hq2 | exact nq2 hq2 | exact nq3 hq2 | exact nq4 hq2
      rw [jb, if_neg (fun e => e.1 q1), if_neg (fun e => e q2)]
      exact hb
    · walk_at "R"
      refine h _ _ ?_ (by walk_at "arr")
      have q2 : t ≠ nm0 := by first | exact nq1 hq2 | exact nq2 hq2 | exact nq3 hq2 | exact nq4 hq2
      rw [jb, if_neg (fun e => e.1 q1), if_pos q2]
      exact ht
  · have q1 : b ≠ nm0 := by first | exact nq1 hq1 | exact nq2 hq1 | exact nq3 hq1 | exact nq4 hq1
    walk_at "R"
    refine nm_ne ht ?_
    walk_at "R"
    cases hq2 : (t != some (Str.ofString ""))
    · walk_at "R"
      refine nm_ne ht ?_
      rw [hq2]
      walk_at "R"
      refine h _ _ ?_ (by walk_at "arr")
      have q2 : t = nm0 := by first | exact nq1 hq2 | exact nq2 hq2 | exact nq3 hq2 | exact nq4 hq2
      rw [jb, if_neg (fun e => e.2 q2), if_neg (fun e => e q2)]
      exact hb
    · have q2 : t ≠ nm0 := by first | exact nq1 hq2 | exact nq2 hq2 | exact nq3 hq2 | exact nq4 hq2
      walk_at "R"
      refine inner_ok X (R.le (by lia)) (by assumption) hb fun t1 s3 H3 => ?_
      walk_at "R"
      refine W_adds (by assumption) (by lia) fun t2 s4 H4 => ?_
      walk_at "R"
      refine inner_ok X (R.le (by lia)) (by assumption) ht fun t1 s5 H5 => ?_
      refine W_adds (by assumption) (by rw [Str.length_append]; lia) fun t2 s6 H6 => ?_
      refine h _ _ ?_ (by walk_at "arr")
      rw [jb, if_pos ⟨q1, q2⟩]
      exact ⟨_, rfl⟩
theorem W_na {x : Str} {p1 p2 p3 p4 p5 p6 : Pos} {k1 k2 : Nat} {l : List (Str × Value)} {n : Nm} {v : Value} {Q : Value → Shared → Prop} (hl : env.kindOf x = some .local) (H : St B f N s) (hm : (env.locals, HasVars l) ∈ N) (hx : Mp l x = some v) (hv : IsNm n v)
    (h : ∀ t s', St B f N s' → Q (.str (txt n) t) s') (hk : env.scope.kind = .function := by rfl) (hd : (x == ("__debug__" : Str)) = false := by decide +kernel) :
    Wp prog w A (eval (.IfExp (.Compare (.Name x p1) [.Is] [.Constant .none k1 p2] p3) (.Constant (.str (Str.ofString "NA")) k2 p4) (.Name x p5) p6) env) Q s := by
  refine W_IfExp (W_tCompare (W_local hl H hm hx (W_none (W_isnone (W_truth ?_))) hk hd))
  rw [isnm_none hv]
  cases n with
  | none => exact W_str H h
  | some y => obtain ⟨t, rfl⟩ := hv; exact W_local hl H hm hx (h _ _ H) hk hd
theorem lbehind_ok (X : Base (K0 P) B) (hA : Room A 2) {b t : Nm} {bv tv : Value} (H : St B f N s) (hb : IsNm b bv) (ht : IsNm t tv) (hlen : (txt b).length + (txt t).length ≤ 90000) {Q : Value → Shared → Prop} (h : ∀ v s', IsNm (jb b t) v → St B f N s' → Q v s') : Wp prog w A (call (.ref 656) [bv, tv]) Q s := by
  refine W_enter [("tag", tv), ("base", bv)] hA (fn_law_behind X) X.lim H (body := fBody (st 99)) rfl (.of_eq rfl) (by kernel_rfl) ?_
  intro L s1 H1 R
  conv in fBody _ => whnf
  walk_at "R"
  refine nm_eq hb ?_
  walk_at "R"
  have h1 : (Str.ofString ".").length = 1 := by decide +kernel
  have out : ∀ (p1 p2 p3 p4 p5 p6 : Pos) s2 (Q' : Value → Shared → Prop), (b = nm0 ∨ t = nm0) → St B f ((L, HasVars [("tag", tv), ("base", bv)]) :: N) s2 → (∀ v s', IsNm (jb b t) v → St B f N s' → Q' v s') → Wp prog w (A.deeper (callEnv F656 L 656)) (eval (.IfExp (.Compare (.Name (Str.ofString "tag") p1) [.Eq] [.Constant (.str (Str.ofString "")) 0 p2] p3) (.Name (Str.ofString "base") p4) (.Name (Str.ofString "tag") p5) p6) (callEnv F656 L 656)) Q' s2 := by
    intro p1 p2 p3 p4 p5 p6 s2 Q' hq H2 hQ
    refine W_IfExp ?_
    walk_at "R"
    refine nm_eq ht ?_
    walk_at "R"
    cases hq2 : (t == some (Str.ofString ""))
    · walk_at "R"
      have q2 : t ≠ nm0 := by first | exact nq1 hq2 | exact nq2 hq2 | exact nq3 hq2 | exact nq4 hq2
      have q1 : b = nm0 := hq.resolve_right q2
      refine hQ _ _ ?_ (by walk_at "arr")
      rw [jb, if_neg (fun e => e.1 q1), if_pos q2]
      exact ht
    · walk_at "R"
      have q2 : t = nm0 := by first | exact nq1 hq2 | exact nq2 hq2 | exact nq3 hq2 | exact nq4 hq2
      refine hQ _ _ ?_ (by walk_at "arr")
      rw [jb, if_neg (fun e => e.2 q2), if_neg (fun e => e q2)]
      exact hb
  cases hq1 : (b == some (Str.ofString ""))
  · have q1 : b ≠ nm0 := by first | exact nq1 hq1 | exact nq2 hq1 | exact nq3 hq1 | exact nq4 hq1
    walk_at "R"
    refine nm_eq ht ?_
    walk_at "R"
    cases hq2 : (t == some (Str.ofString ""))
    · have q2 : t ≠ nm0 := by first | exact nq1 hq2 | exact nq2 hq2 | exact nq3 hq2 | exact nq4 hq2
      walk_at "R"
      refine W_na (by walk_at "kind") (by assumption) (by walk_at "mem") (by walk_at "mp") hb fun t1 s3 H3 => ?_
      walk_at "R"
      refine W_adds (by assumption) (by lia) fun t2 s4 H4 => ?_
      walk_at "R"
      refine W_na (by walk_at "kind") (by assumption) (by walk_at "mem") (by walk_at "mp") ht fun t1 s5 H5 => ?_
      refine W_adds (by assumption) (by rw [Str.length_append]; lia) fun t2 s6 H6 => ?_
      refine h _ _ ?_ (by walk_at "arr")
      rw [jb, if_pos ⟨q1, q2⟩]
      exact ⟨_, rfl⟩
    · walk_at "R"
      exact out _ _ _ _ _ _ _ _ (.inr (nq1 hq2)) (by assumption) h
  · walk_at "R"
    exact out _ _ _ _ _ _ _ _ (.inl (nq1 hq1)) (by assumption) h
end
noncomputable def Plan.hs : Plan → Str
  | .nothing => Str.ofString "nothing"
  | .name => Str.ofString "name"
  | .row k _ _ => k.s
  | .tree k _ _ => k.s
theorem hs_in3 {n : Nat} {p : Plan} (h : OkPlan n p) (op : Bool) : (op && [Str.ofString "list", Str.ofString "pairlist", Str.ofString "expression"].any (· == p.hs)) = p.opens op := by
  cases op with
  | false => cases p <;> rfl
  | true =>
    cases p with
    | nothing => show List.any _ _ = false; decide +kernel
    | name => show List.any _ _ = false; decide +kernel
    | row k its hd =>
      rw [OkPlan_row] at h
      have h1 := h.1
      show List.any _ (· == k.s) = false
      cases k <;> first | (cases h1; done) | decide +kernel
    | tree k kids hd =>
      cases n with
      | zero => exact h.elim
      | succ n =>
        have h1 := h.1
        show List.any _ (· == k.s) = true
        cases k <;> first | (cases h1; done) | decide +kernel
theorem IsPlan.hd {f : Heap} : ∀ {n : Nat} {p : Plan} {v : Value}, IsPlan f n p v → ∃ a t r, v = .ref a ∧ At f a (IsLst (.str p.hs t :: r)) := by
  intro n p v h
  cases p with
  | nothing => rw [IsPlan_nothing] at h; obtain ⟨a, t, rfl, h1⟩ := h; exact ⟨a, t, _, rfl, h1⟩
  | name => rw [IsPlan_name] at h; obtain ⟨a, t, rfl, h1⟩ := h; exact ⟨a, t, _, rfl, h1⟩
  | row k its hd => rw [IsPlan_row] at h; obtain ⟨a, t, iv, hv, rfl, h1, _⟩ := h; exact ⟨a, t, _, rfl, h1⟩
  | tree k kids hd =>
    cases n with
    | zero => exact h.elim
    | succ n => obtain ⟨a, t, iv, hv, rfl, h1, _⟩ := h; exact ⟨a, t, _, rfl, h1⟩
section
variable {prog : Program} {w : World} {P : Params} {B : Shared} {f : Heap} {N : Led} {s : Shared} {A : Around} {env : Env}
theorem leaf_ok (X : Base (K0 P) B) (hA : Room A 3) {xr dr l : Addr} {base name : Nm} {bv nv : Value} {num c : Nat} {t1 t2 : Tok} (H : St B f ((xr, IsInst 534 dr) :: (dr, DictIs w.params [("names", .ref l), ("number", .int num t1), ("count", .int c t2)]) :: N) s)
    (hb : IsNm base bv) (hn : IsNm name nv) (hlen : (txt base).length + (txt name).length ≤ 80000) (hnum : num < 100000) {Q : Value → Shared → Prop}
    (h : ∀ v s', IsNm (leafName base name num c) v → St B f ((xr, IsInst 534 dr) :: (dr, DictIs w.params [("names", .ref l), ("number", .int num t1), ("count", .int c t2)]) :: N) s' → Q v s') : Wp prog w A (call (.ref 573) [bv, nv, .ref xr]) Q s := by
  refine W_enter [("row", .ref xr), ("name", nv), ("base", bv)] hA (fn_leaf_name X) X.lim H (body := fBody (st 85)) rfl (.of_eq rfl) (by kernel_rfl) ?_
  intro L s1 H1 R
  conv in fBody _ => whnf
  walk_at "R"
  refine nm_ne hn ?_
  walk_at "R"
  cases hq1 : (name != some (Str.ofString ""))
  · have q1 := nq3 hq1
    walk_at "R"
    refine nm_eq hb ?_
    walk_at "R"
    cases hq2 : (base == some (Str.ofString ""))
    · have q2 := nq2 hq2
      walk_at "R"
      cases hq3 : ((c : Int) == 1)
      · have q3 : ¬ c = 1 := by have : ¬ ((c : Int) = 1) := by simpa using hq3
                                lia
        walk_at "R"
        refine inner_ok X (R.le (by lia)) (by assumption) hb fun t1 s3 H3 => ?_
        walk_at "R"
        refine W_stri (by assumption) hnum fun t4 s4 H4 => ?_
        have := nt_length hnum
        refine W_adds (by assumption) (by lia) fun t2 s6 H6 => ?_
        refine h _ _ ?_ (by walk_at "arr")
        rw [leafName, if_neg (fun e => e q1), if_neg (fun e => e.elim q2 q3)]
        exact ⟨_, rfl⟩
      · have q3 : c = 1 := by have : ((c : Int) = 1) := by simpa using hq3
                              lia
        walk_at "R"
        refine h _ _ ?_ (by walk_at "arr")
        rw [leafName, if_neg (fun e => e q1), if_pos (.inr q3)]
        exact hb
    · have q2 := nq1 hq2
      walk_at "R"
      refine h _ _ ?_ (by walk_at "arr")
      rw [leafName, if_neg (fun e => e q1), if_pos (.inl q2)]
      exact hb
  · have q1 := nq4 hq1
    walk_at "R"
    refine jb_ok X R (by assumption) hb hn (by lia) fun v s3 hv H3 => ?_
    refine h _ _ ?_ (by walk_at "arr")
    rw [leafName, if_pos q1]
    exact hv
theorem lopen_ok (X : Base (K0 P) B) (hA : Room A 1) {n : Nat} {p : Plan} {v : Value} {op : Bool} (H : St B f N s) (ho : OkPlan n p) (hv : IsPlan f n p v) {Q : Value → Shared → Prop} (h : ∀ s', St B f N s' → Q (.bool (p.opens op)) s') : Wp prog w A (call (.ref 663) [v, .bool op]) Q s := by
  refine W_enter [("opened_so", .bool op), ("plan", v)] hA (fn_law_is_open X) X.lim H (body := fBody (st 100)) rfl (.of_eq rfl) (by kernel_rfl) ?_
  intro L s1 H1 R
  conv in fBody _ => whnf
  obtain ⟨a, t, r, rfl, h1⟩ := hv.hd
  have e := hs_in3 ho op
  cases op with
  | false =>
    walk_at "R"
    rw [← e] at h
    exact h _ (by walk_at "arr")
  | true =>
    walk_at "R"
    rw [← e] at h
    exact h _ (by walk_at "arr")
theorem share_ok (X : Base (K0 P) B) (hA : Room A 1) {x dx : Addr} {kv iv av : Value} {b1 b2 : Bool} (H : St B f ((x, IsInst 321 dx) :: (dx, DictIs w.params [("kind", kv), ("items", iv), ("attrs", av), ("shared", .bool b1), ("loose", .bool b2)]) :: N) s) {Q : Value → Shared → Prop}
    (h : ∀ s', St B f ((x, IsInst 321 dx) :: (dx, DictIs w.params [("kind", kv), ("items", iv), ("attrs", av), ("shared", .bool true), ("loose", .bool b2)]) :: N) s' → Q (.ref x) s') : Wp prog w A (call (.ref 402) [.ref x]) Q s := by
  refine W_enter [("v", .ref x)] hA (fn_share X) X.lim H (body := fBody (st 58)) rfl (.of_eq rfl) (by kernel_rfl) ?_
  intro L s1 H1 R
  conv in fBody _ => whnf
  walk_at "R"
  refine W_isVec X (by assumption) (St.mem (by assumption) (by walk_at "mem")) (St.mem (by assumption) (by walk_at "mem")) fun s2 H2 => ?_
  walk_at "R"
  exact h _ (by walk_at "arr")
theorem sharesym_ok (X : Base (K0 P) B) (hA : Room A 1) {n : Nat} {v : Value} (H : St B f N s) (hv : IsVal prog w f n .name v) {Q : Value → Shared → Prop} (h : ∀ s', St B f N s' → Q v s') : Wp prog w A (call (.ref 402) [v]) Q s := by
  refine W_enter [("v", v)] hA (fn_share X) X.lim H (body := fBody (st 58)) rfl (.of_eq rfl) (by kernel_rfl) ?_
  intro L s1 H1 R
  conv in fBody _ => whnf
  walk_at "R"
  rw [IsVal_name] at hv; obtain ⟨x, dx, t, nv, rfl, h1, h2⟩ := hv
  refine W_notVec (nv_Symbol P) X (by assumption) (St.at (by assumption) h1) (St.at (by assumption) h2) fun s2 H2 => ?_
  walk_at "R"
  exact h _ (by walk_at "arr")
theorem withnames_ok (X : Base (K0 P) B) (hA : Room A 4) {x dx : Addr} {kv iv hv : Value} {b1 b2 : Bool} {hd : Option (List Nm)} (H : St B f ((x, IsInst 321 dx) :: (dx, DictIs w.params [("kind", kv), ("items", iv), ("attrs", .none), ("shared", .bool b1), ("loose", .bool b2)]) :: N) s)
    (hh : IsHeads f hd hv) (hlen : ∀ hs, hd = some hs → hs.length ≤ 1000) {Q : Value → Shared → Prop}
    (h : ∀ f' av s', Le f f' → handedIn av = true → St B f' ((x, IsInst 321 dx) :: (dx, DictIs w.params [("kind", kv), ("items", iv), ("attrs", av), ("shared", .bool b1), ("loose", .bool b2)]) :: N) s' → Q (.ref x) s') :
    Wp prog w A (call (.ref 512) [.ref x, hv]) Q s := by
  refine W_enter [("names", hv), ("v", .ref x)] hA (fn_with_names X) X.lim H (body := fBody (st 76)) rfl (.of_eq rfl) (by kernel_rfl) ?_
  intro L s1 H1 R
  conv in fBody _ => whnf
  cases hd with
  | none =>
    cases hh
    walk_at "R"
    rw [if_neg (by decide)]
    walk_at "R"
    exact h f .none _ (Le.refl f) rfl (by walk_at "arr")
  | some hs =>
    obtain ⟨a, us, rfl, h1, h2⟩ := hh
    have := hlen hs rfl
    walk_at "R"
    rw [if_pos (by simp)]
    walk_at "R"
    refine W_dict1 X (by assumption) fun d s2 hd2 H2 => ?_
    walk_at "R"
    refine char_ok X R (by assumption) h1 (by rw [← h2.length]; lia) fun c dc b t s3 H3 => ?_
    walk_at "R"
    refine share_ok X (R.le (by lia)) (by assumption) fun s4 H4 => ?_
    obtain ⟨f1, le1, H5, k1, k2, k3⟩ := H4.frz3
    refine ⟨f1, _, H5, fun s5 H5 => ?_⟩
    walk_at "R"
    rename_i H6
    exact h f1 (.ref d) _ le1 rfl (by walk_at "arr")
theorem korder_ok (X : Base (K0 P) B) (hA : Room A 1) {k : Kd} {t : Tok} (H : St B f N s) {Q : Value → Shared → Prop} (h : ∀ t s', St B f N s' → Q (.int (rank k : Nat) t) s') : Wp prog w A (call (.ref 409) [.str k.s t]) Q s := by
  refine W_enter [("kind", .str k.s t)] hA (fn_kind_order X) X.lim H (body := fBody (st 61)) rfl (.of_eq rfl) (by kernel_rfl) ?_
  intro L s1 H1 R
  conv in fBody _ => whnf
  walk_at "R"
  rw [kd_in7]
  split
  · rename_i hk
    walk_at "R"
    refine W_tindex (by assumption) (St.mem (by assumption) (by walk_at "mem")) (by walk_at "strs") (rank k) (kd_idx7 k hk) (kd_mem7 k hk) fun t2 s3 H3 => ?_
    exact h _ _ (by walk_at "arr")
  · rename_i hk
    rw [kd_rank5 k hk] at h
    walk_at "R"
    exact h _ _ (by walk_at "arr")
end
noncomputable def IsKs (k : Kd) (v : Value) : Prop := ∃ t, v = .str k.s t
theorem top_snoc (ks : List Kd) (k : Kd) : top (ks ++ [k]) = max (top ks) (rank k) := by simp [top]
theorem top_mem : ∀ (ks : List Kd), top ks = 0 ∨ ∃ k ∈ ks, top ks = rank k := by
  have : ∀ (ks : List Kd) (m : Nat), ks.foldl (fun m k => max m (rank k)) m = m ∨ ∃ k ∈ ks, ks.foldl (fun m k => max m (rank k)) m = rank k := by
    intro ks
    induction ks with
    | nil => exact fun m => .inl rfl
    | cons k r ih =>
      intro m
      rw [List.foldl_cons]
      rcases ih (max m (rank k)) with e | ⟨k', hk', e⟩
      · rw [e]
        rcases Nat.le_total m (rank k) with q | q
        · exact .inr ⟨k, .head _, Nat.max_eq_right q⟩
        · exact .inl (Nat.max_eq_left q)
      · exact .inr ⟨k', .tail _ hk', e⟩
  exact fun ks => this ks 0
theorem top_lt (ks : List Kd) : top ks < 7 := by
  rcases top_mem ks with e | ⟨k, _, e⟩
  · lia
  · rw [e]; cases k <;> decide
theorem top_ne3 (ks : List Kd) : top ks ≠ 3 := by
  rcases top_mem ks with e | ⟨k, _, e⟩
  · lia
  · rw [e]; cases k <;> decide
section
variable {prog : Program} {w : World} {P : Params} {B : Shared} {f : Heap} {N : Led} {s : Shared} {A : Around} {env : Env}
theorem ckind_ok (X : Base (K0 P) B) (hA : Room A 2) {l : Addr} {vs : List Value} {ks : List Kd} (H : St B f N s) (hl : At f l (IsLst vs)) (hk : All2 IsKs ks vs) {Q : Value → Shared → Prop} (h : ∀ t s', St B f N s' → Q (.str (ofRank (top ks)).s t) s') : Wp prog w A (call (.ref 416) [.ref l]) Q s := by
  refine W_enter [("kinds", .ref l)] hA (fn_common_kind X) X.lim H (body := fBody (st 62)) rfl (.of_eq rfl) (by kernel_rfl) ?_
  intro L s1 H1 R
  conv in fBody _ => whnf
  walk_at "R"
  refine W_iter_list (by assumption) R.hh (hl.imp fun _ => IsLst.w) ?_
  intro it s2 I2 H2
  rename_i t1 _ _ t2 _ _ t3 _ _ t4 _ _ t5 _ _ t6 _ _ t7 _ _ tp _ _ _ _ t8 _ _ _ _
  refine W_loopG I2 (fun j f' N' => f = f' ∧ ∃ t, N' = (L, HasVars [("most", .int (top (ks.take j) : Nat) t), ("names", .ref tp), ("kinds", .ref l)]) :: (tp, IsTupO [.str (Str.ofString "NULL") t1, .str (Str.ofString "logical") t2, .str (Str.ofString "integer") t3, .str (Str.ofString "double") t4, .str (Str.ofString "character") t5, .str (Str.ofString "list") t6, .str (Str.ofString "expression") t7]) :: N) H2 (Le.refl _) ⟨rfl, t8, rfl⟩ ?_ ?_
  · rintro Q1 i f' N' s3 v hn hi hle ⟨rfl, t, rfl⟩ hv H3
    obtain ⟨k, hk1, tk, rfl⟩ := hk.get (i := i) (by simpa using hv)
    walk_at "R"
    refine korder_ok X R (by assumption) fun t9 s4 H4 => ?_
    walk_at "R"
    refine W_max2 (by assumption) (by walk_at "mem") R.hh fun t10 s5 H5 => ?_
    walk_at "R"
    rw [show max ((top (ks.take i) : Nat) : Int) ((rank k : Nat) : Int) = ((top (ks.take (i + 1)) : Nat) : Int) by rw [List.take_succ, hk1]; simp [top_snoc]; lia] at *
    exact ⟨f, _, Le.refl _, ⟨rfl, _, rfl⟩, St.arrv L (by assumption) (by walk_at "ext") (by walk_at "sel") (by walk_at "amp")⟩
  · rintro f' N' s3 hle ⟨rfl, t, rfl⟩ H3
    have hlen : (ks.take vs.toArray.size) = ks := List.take_of_length_le (by simp [hk.length])
    rw [hlen] at H3
    walk_at "R"
    have h7 := top_lt ks
    have h3 := top_ne3 ks
    have fin : ∀ t', Q (.str (ofRank (top ks)).s t') s3 := fun t' => h t' _ (by walk_at "arr")
    generalize top ks = m at *
    have hm : m = 0 ∨ m = 1 ∨ m = 2 ∨ m = 4 ∨ m = 5 ∨ m = 6 := by lia
    rcases hm with rfl | rfl | rfl | rfl | rfl | rfl <;>
    exact W_itemT (St.mem (by assumption) (by walk_at "mem")) rfl (by lia) (fin _)
end
theorem kd_atom (k : Kd) : ([Str.ofString "logical", Str.ofString "integer", Str.ofString "double", Str.ofString "character"].any (· == k.s)) = k.atomic := by cases k <;> decide +kernel
theorem kd_s_ch (k : Kd) : (k.s == Str.ofString "character") = (k matches .ch) := by cases k <;> decide +kernel
theorem kd_s_lg (k : Kd) : (k.s == Str.ofString "logical") = (k matches .lg) := by cases k <;> decide +kernel
theorem kd_s_it (k : Kd) : (k.s == Str.ofString "integer") = (k matches .it) := by cases k <;> decide +kernel
theorem kd_s_ls (k : Kd) : (k.s == Str.ofString "list") = (k matches .ls) := by cases k <;> decide +kernel
theorem kd_s_ex (k : Kd) : (k.s == Str.ofString "expression") = (k matches .ex) := by cases k <;> decide +kernel
theorem kd_s_pl (k : Kd) : (k.s == Str.ofString "pairlist") = (k matches .pl) := by cases k <;> decide +kernel
theorem kd_s_db (k : Kd) : (k.s == Str.ofString "double") = false := by cases k <;> decide +kernel
theorem kd_s_eq (k k' : Kd) : (k.s == k'.s) = decide (rank k = rank k' ∧ k.treeish = k'.treeish ∧ (k matches .pl) = (k' matches .pl)) := by cases k <;> cases k' <;> decide +kernel
section
variable {prog : Program} {w : World} {P : Params} {B : Shared} {f : Heap} {N : Led} {s : Shared} {A : Around} {env : Env}
theorem isat_ok (X : Base (K0 P) B) (hA : Room A 1) {k : Kd} {t : Tok} (H : St B f N s) {Q : Value → Shared → Prop} (h : ∀ s', St B f N s' → Q (.bool k.atomic) s') : Wp prog w A (call (.ref 486) [.str k.s t]) Q s := by
  refine W_enter [("kind", .str k.s t)] hA (fn_is_atomic_kind X) X.lim H (body := fBody (st 72)) rfl (.of_eq rfl) (by kernel_rfl) ?_
  intro L s1 H1 R
  conv in fBody _ => whnf
  walk_at "R"
  rw [kd_atom]
  exact h _ (by walk_at "arr")
theorem toint_ok (X : Base (K0 P) B) (hA : Room A 1) {t : Tok} {y : It} {v nv : Value} (H : St B f N s) (hv : IsIt y v) (hy : OkIt .lg y) {Q : Value → Shared → Prop} (h : ∀ s', St B f N s' → Q v s') : Wp prog w A (call (.ref 458) [.str Kd.lg.s t, v, nv]) Q s := by
  refine W_enter [("notes", nv), ("item", v), ("kind", .str Kd.lg.s t)] hA (fn_to_integer X) X.lim H (body := fBody (st 68)) rfl (.of_eq rfl) (by kernel_rfl) ?_
  intro L s1 H1 R
  conv in fBody _ => whnf
  cases y with
  | no =>
    cases hv
    walk_at "R"
    rw [if_pos (by decide)]
    walk_at "R"
    exact h _ (by walk_at "arr")
  | s x => exact hy.elim
  | i n =>
    obtain ⟨tk, rfl⟩ := hv
    walk_at "R"
    rw [if_neg (by simp)]
    walk_at "R"
    rw [kd_s_ch]
    walk_at "R"
    rw [kd_s_db]
    walk_at "R"
    exact h _ (by walk_at "arr")
theorem totext_ok (X : Base (K0 P) B) (hA : Room A 1) {t : Tok} {k : Kd} {y : It} {v : Value} (H : St B f N s) (hv : IsIt y v) (hy : OkIt k y) (hk : k = .lg ∨ k = .it) {Q : Value → Shared → Prop} (h : ∀ r s', IsIt (y.raise k .ch) r → St B f N s' → Q r s') : Wp prog w A (call (.ref 472) [.str k.s t, v]) Q s := by
  refine W_enter [("item", v), ("kind", .str k.s t)] hA (fn_to_text X) X.lim H (body := fBody (st 70)) rfl (.of_eq rfl) (by kernel_rfl) ?_
  intro L s1 H1 R
  conv in fBody _ => whnf
  have hch : (k.s == Str.ofString "character") = false := by rw [kd_s_ch]; rcases hk with rfl | rfl <;> rfl
  cases y with
  | no =>
    cases hv
    walk_at "R"
    rw [if_pos (by decide)]
    walk_at "R"
    exact h _ _ rfl (by walk_at "arr")
  | s x => rcases hk with rfl | rfl <;> exact hy.elim
  | i n =>
    obtain ⟨tk, rfl⟩ := hv
    walk_at "R"
    rw [if_neg (by simp)]
    walk_at "R"
    rw [hch]
    walk_at "R"
    rw [kd_s_lg]
    rcases hk with rfl | rfl
    · walk_at "R"
      refine W_IfExp ?_
      walk_at "R"
      split
      · rename_i q
        walk_at "R"
        refine h _ _ ?_ (by walk_at "arr")
        have q' : n = 1 := by simpa using q
        show ∃ t, _ = Value.str (if n = 1 then _ else _) t
        rw [if_pos q']
        exact ⟨_, rfl⟩
      · rename_i q
        walk_at "R"
        refine h _ _ ?_ (by walk_at "arr")
        have q' : ¬ n = 1 := by simpa using q
        show ∃ t, _ = Value.str (if n = 1 then _ else _) t
        rw [if_neg q']
        exact ⟨_, rfl⟩
    · walk_at "R"
      rw [kd_s_it]
      walk_at "R"
      have hn : n = ((n.toNat : Nat) : Int) := by rcases hy with rfl | rfl <;> rfl
      have hn2 : n.toNat < 100000 := by rcases hy with rfl | rfl <;> decide
      rw [hn]
      refine W_stri (by assumption) hn2 fun t3 s3 H3 => ?_
      refine h _ _ ?_ (by walk_at "arr")
      show ∃ t, _ = Value.str (nt n.toNat) t
      exact ⟨_, rfl⟩
theorem itemas_ok (X : Base (K0 P) B) (hA : Room A 3) {t u : Tok} {k kd : Kd} {v nv : Value} (H : St B f N s) (hne : (k.s == kd.s) = false)
    (hc : (kd = .ls ∨ kd = .ex) ∨ (k.atomic = true ∧ kd.atomic = true ∧ rank k < rank kd)) (hv : kd.atomic = true → ∃ y, IsIt y v ∧ OkIt k y) {Q : Value → Shared → Prop}
    (h : ∀ r f' s', Le f f' → (kd.atomic = true → ∀ y, IsIt y v → IsIt (y.raise k kd) r) → St B f' N s' → Q r s') : Wp prog w A (call (.ref 479) [.str k.s t, v, .str kd.s u, nv]) Q s := by
  refine W_enter [("notes", nv), ("to", .str kd.s u), ("item", v), ("kind", .str k.s t)] hA (fn_item_as X) X.lim H (body := fBody (st 71)) rfl (.of_eq rfl) (by kernel_rfl) ?_
  intro L s1 H1 R
  conv in fBody _ => whnf
  walk_at "R"
  rw [hne]
  walk_at "R"
  rcases hc with hls | ⟨hka, hkda, hrk⟩
  · have hkda : ¬ kd.atomic = true := by rcases hls with rfl | rfl <;> decide
    have hend : ∀ r f' s', Le f f' → St B f' N s' → Q r s' := fun r f' s' hl hs => h r f' s' hl (fun e => absurd e hkda) hs
    rcases hls with rfl | rfl
    · rw [kd_s_ls]
      walk_at "R"
      refine W_IfExp ?_
      walk_at "R"
      refine isat_ok X (R.le (by lia)) (by assumption) fun s3 H3 => ?_
      walk_at "R"
      split
      · walk_at "R"
        refine mk_Vector X R (by assumption) fun x dx s5 H5 => ?_
        walk_at "R"
        refine share_ok X (R.le (by lia)) (by walk_at "arr") fun s4 H4 => ?_
        exact hend _ _ _ (Le.refl f) (by walk_at "arr")
      · walk_at "R"
        exact hend _ _ _ (Le.refl f) (by walk_at "arr")
    · rw [kd_s_ls]
      walk_at "R"
      rw [kd_s_ex]
      walk_at "R"
      refine W_IfExp ?_
      walk_at "R"
      refine isat_ok X (R.le (by lia)) (by assumption) fun s3 H3 => ?_
      walk_at "R"
      split
      · walk_at "R"
        refine mk_Vector X R (by assumption) fun x dx s5 H5 => ?_
        walk_at "R"
        refine share_ok X (R.le (by lia)) (by walk_at "arr") fun s4 H4 => ?_
        exact hend _ _ _ (Le.refl f) (by walk_at "arr")
      · walk_at "R"
        exact hend _ _ _ (Le.refl f) (by walk_at "arr")
  · have e1 : (kd.s == Str.ofString "list") = false := by rw [kd_s_ls]; cases kd <;> first | rfl | (cases hkda; done)
    have e2 : (kd.s == Str.ofString "expression") = false := by rw [kd_s_ex]; cases kd <;> first | rfl | (cases hkda; done)
    have e3 : (kd.s == Str.ofString "pairlist") = false := by rw [kd_s_pl]; cases kd <;> first | rfl | (cases hkda; done)
    have e4 : (kd.s == Str.ofString "logical") = false := by rw [kd_s_lg]; cases kd <;> first | rfl | (cases hkda; done) | (cases k <;> first | (cases hka; done) | exact absurd hrk (by decide))
    rw [e1]
    walk_at "R"
    rw [e2]
    walk_at "R"
    rw [e3]
    walk_at "R"
    refine isat_ok X (R.le (by lia)) (by assumption) fun s3 H3 => ?_
    rw [hka]
    walk_at "R"
    rw [e4]
    walk_at "R"
    obtain ⟨y, hy1, hy2⟩ := hv hkda
    rw [kd_s_it]
    have hkd : kd = .it ∨ kd = .ch := by cases kd <;> first | (cases hkda; done) | (exact .inl rfl) | (exact .inr rfl) | (rw [kd_s_lg] at e4; cases e4)
    rcases hkd with rfl | rfl
    · have hk : k = .lg := by cases k <;> first | rfl | (cases hka; done) | exact absurd hrk (by decide)
      subst hk
      walk_at "R"
      refine toint_ok X (R.le (by lia)) (by assumption) hy1 hy2 fun s4 H4 => ?_
      refine h _ f _ (Le.refl f) (fun _ y' hy' => ?_) (by walk_at "arr")
      cases y' <;> exact hy'
    · have hk : k = .lg ∨ k = .it := by cases k <;> first | exact .inl rfl | exact .inr rfl | (cases hka; done) | exact absurd hrk (by decide)
      walk_at "R"
      rw [kd_s_db]
      walk_at "R"
      refine totext_ok X (R.le (by lia)) (by assumption) hy1 hy2 hk fun r s4 hr H4 => ?_
      refine h _ f _ (Le.refl f) (fun _ y' hy' => ?_) (by walk_at "arr")
      have : y' = y := by
        cases y' <;> cases y <;> first | rfl | (cases hy'; obtain ⟨_, e⟩ := hy1; cases e; done) | (cases hy1; obtain ⟨_, e⟩ := hy'; cases e; done) | (obtain ⟨_, e⟩ := hy'; obtain ⟨_, e'⟩ := hy1; cases e; cases e'; rfl) | (obtain ⟨_, e⟩ := hy'; obtain ⟨_, e'⟩ := hy1; cases e; cases e'; done)
      rw [this]; exact hr
end
theorem raise_same (k : Kd) (y : It) : y.raise k k = y := by cases k <;> cases y <;> rfl
theorem All2.map {α β γ : Type} {R : γ → β → Prop} {g : α → γ} {as : List α} {bs : List β} (h : All2 (fun a b => R (g a) b) as bs) : All2 R (as.map g) bs := by
  induction h with
  | nil => exact .nil
  | cons h _ ih => exact .cons h ih
theorem All2.ofget {α β : Type} {R : α → β → Prop} : ∀ {as : List α} {bs : List β}, as.length = bs.length → (∀ (i : Nat) a b, as[i]? = some a → bs[i]? = some b → R a b) → All2 R as bs
  | [], [], _, _ => .nil
  | a :: as, b :: bs, hl, h => .cons (h 0 a b rfl rfl) (All2.ofget (by simpa using hl) fun i a b h1 h2 => h (i + 1) a b (by simpa using h1) (by simpa using h2))
section
variable {prog : Program} {w : World} {P : Params} {B : Shared} {f : Heap} {N : Led} {s : Shared} {A : Around} {env : Env}
theorem askind_ok (X : Base (K0 P) B) (hA : Room A 5) {x li : Addr} {k kd : Kd} {vs : List Value} {av nv : Value} {u : Tok} {hd : Option (List Nm)} {its : List It} (H : St B f N s) (hv : IsVec w f x k (.ref li) av) (hli : At f li (IsLst vs)) (hvs : vs.length ≤ 1000) (ha : IsAttrs prog w f hd av)
    (hlen : ∀ hs, hd = some hs → hs.length ≤ 1000) (hc : k = kd ∨ ((k.s == kd.s) = false ∧ ((kd = .ls ∨ kd = .ex) ∨ (k.atomic = true ∧ kd.atomic = true ∧ rank k < rank kd))))
    (hit : kd.atomic = true → All2 IsIt its vs ∧ ∀ y ∈ its, OkIt k y) {Q : Value → Shared → Prop}
    (h : ∀ y dy b us t f' av' b1 b2 s', Le f f' → us.length = vs.length → (kd.atomic = true → All2 IsIt (its.map (·.raise k kd)) us) → handedIn av' = true →
      St B f' ((y, IsInst 321 dy) :: (dy, DictIs w.params [("kind", .str kd.s t), ("items", .ref b), ("attrs", av'), ("shared", .bool b1), ("loose", .bool b2)]) :: (b, IsLst us) :: N) s' → Q (.ref y) s') :
    Wp prog w A (call (.ref 517) [.ref x, .str kd.s u, nv]) Q s := by
  refine W_enterC [("v", .ref x), ("kind", .str kd.s u), ("notes", nv)] [] [("notes", nv), ("kind", .str kd.s u), ("v", .ref x)] (fun L => [(L + 3, IsCellO nv), (L + 2, IsCellO (.str kd.s u)), (L + 1, IsCellO (.ref x))]) hA (fn_as_kind X) X.lim H (body := fBody (st 77)) rfl rfl (by kernel_rfl) (fun L => by kernel_rfl) (by kernel_rfl) (by kernel_rfl) (fun L => by kernel_rfl) ["notes", "kind", "v"] (fun L => by kernel_rfl) (by decide +kernel) ?_
  intro L s1 H1 R
  have kc1 : (callEnvC F517 L 517).cells.lookup (Str.ofString "v") = some (L + 1) := by kernel_rfl
  have kc2 : (callEnvC F517 L 517).cells.lookup (Str.ofString "kind") = some (L + 2) := by kernel_rfl
  have kc3 : (callEnvC F517 L 517).cells.lookup (Str.ofString "notes") = some (L + 3) := by kernel_rfl
  replace H1 : St B f ((L, HasVars []) :: (L + 3, IsCellO nv) :: (L + 2, IsCellO (.str kd.s u)) :: (L + 1, IsCellO (.ref x)) :: N) s1 := H1
  have fin : ∀ f1 ia us s2, Le f f1 → At f1 ia (IsLst us) → us.length = vs.length → (kd.atomic = true → All2 IsIt (its.map (·.raise k kd)) us) → St B f1 ((L, HasVars [("items", .ref ia)]) :: (L + 3, IsCellO nv) :: (L + 2, IsCellO (.str kd.s u)) :: (L + 1, IsCellO (.ref x)) :: N) s2 →
      Wp prog w (A.deeper (callEnvC F517 L 517)) (execs ((fBody (st 77)).drop 3) (callEnvC F517 L 517)) (fun fl s'' => Q (match fl with | .ret v => v | _ => .none) s'') s2 := by
    intro f1 ia us s2 hl hia hus hr H2
    conv in List.drop _ _ => whnf
    walk_at "R"
    refine W_listof (by assumption) (by walk_at "mem") (St.at (by assumption) hia) (by lia) fun b s4 H4 => ?_
    walk_at "R"
    refine mk_Vector X (R.le (by lia)) (by assumption) fun y dy s5 H5 => ?_
    walk_at "R"
    refine names_ok X (R.le (by lia)) (by assumption) (hv.mono hl) (ha.mono hl) hlen ?_ ?_
    · rintro rfl s6 H6
      walk_at "R"
      refine withnames_ok X R (by walk_at "arr") (hd := none) rfl (fun _ e => nomatch e) fun f2 av2 s7 le2 hav H7 => ?_
      exact h y dy b us _ f2 av2 _ _ _ (hl.trans le2) hus hr hav (by walk_at "arr")
    · rintro hs rfl c ns s6 hns H6
      obtain ⟨f2, le2, H7, k7⟩ := H6.freeze
      walk_at "R"
      refine withnames_ok X R (by walk_at "arr") (hd := some hs) ⟨c, ns, rfl, k7, hns⟩ hlen fun f3 av2 s7 le3 hav H7 => ?_
      exact h y dy b us _ f3 av2 _ _ _ (hl.trans (le2.trans le3)) hus hr hav (by walk_at "arr")
  conv in fBody _ => whnf
  obtain ⟨dx, tk, b1, b2, h1, h2⟩ := hv
  walk_at "R"
  refine W_isVec X (by assumption) (St.at (by assumption) h1) (St.at (by assumption) h2) fun s2 H2 => ?_
  walk_at "R"
  rcases hc with rfl | ⟨hne, hc⟩
  · rw [show (k.s != k.s) = false by simp, if_neg Bool.false_ne_true]
    refine W_nil ?_
    try dsimp only
    exact fin f li vs _ (Le.refl f) hli rfl (fun e => by rw [show its.map (·.raise k k) = its by rw [show (fun y : It => y.raise k k) = id from funext fun y => raise_same k y, List.map_id]]; exact (hit e).1) (by assumption)
  · rw [show (k.s != kd.s) = true by simp [bne, hne]]
    walk_at "R"
    refine W_Assign_ListComp (cl := [(Str.ofString "v", L + 1), (Str.ofString "notes", L + 3), (Str.ofString "kind", L + 2)]) (by kernel_rfl) (by kernel_rfl) ?_
    walk_at "R"
    refine W_iter_list (by assumption) R.hh (hli.imp fun _ => IsLst.w) ?_
    intro it s7 I7 H7
    refine W_compAG (by kernel_rfl) I7 (fun j f' N' us => us.length = j ∧ (kd.atomic = true → All2 IsIt ((its.take j).map (·.raise k kd)) us) ∧ N' = (L, HasVars [("items", .ref li)]) :: (L + 3, IsCellO nv) :: (L + 2, IsCellO (.str kd.s u)) :: (L + 1, IsCellO (.ref x)) :: N) (by walk_at "arr") (Le.refl f) ⟨rfl, fun _ => .nil, rfl⟩ ?_ (by kernel_rfl) ?_
    · rintro Q1 C acc j f' N' us l s8 v hn hj hl ⟨hus, hr, rfl⟩ hvj H8
      have h1' := h1.mono hl
      have h2' := h2.mono hl
      have hvj' : vs[j]? = some v := by simpa using hvj
      have hj' : j < vs.length := by simpa using hj
      walk_at "R"
      refine itemas_ok X (R.le (by lia)) (by assumption) hne hc (fun e => ?_) fun r f2 s9 le2 hr2 H9 => ?_
      · obtain ⟨y, hy1, hy2⟩ := (hit e).1.get hvj'
        exact ⟨y, hy2, (hit e).2 y (List.mem_of_getElem? hy1)⟩
      · refine hn _ _ ⟨f2, _, _, hl.trans le2, ⟨by simp [hus], fun e => ?_, rfl⟩, by lia, by walk_at "arr"⟩
        obtain ⟨y, hy1, hy2⟩ := (hit e).1.get hvj'
        rw [List.take_succ, hy1, List.map_append]
        exact (hr e).snoc (hr2 e y hy2)
    · rintro acc f' N' us s8 hl ⟨hus, hr, rfl⟩ H8
      refine ⟨_, _, Sel.cons (by walk_at "ext") Sel.refl, ?_⟩
      intro s9 H9
      obtain ⟨f2, le2, H10, k10⟩ := (show St B f' ((acc, IsLst us) :: (L, HasVars [("items", .ref acc), ("items", .ref li)]) :: (L + 3, IsCellO nv) :: (L + 2, IsCellO (.str kd.s u)) :: (L + 1, IsCellO (.ref x)) :: N) s9 by walk_at "arr").freeze
      refine W_nil ?_
      try dsimp only
      refine fin f2 acc us _ (hl.trans le2) k10 (by simpa using hus) (fun e => ?_) (St.arrv L (by assumption) (by walk_at "ext") (by walk_at "sel") (by walk_at "amp"))
      have := hr e
      rwa [List.take_of_length_le (by rw [(hit e).1.length]; simp)] at this
theorem W_items {x : Addr} {k : Kd} {iv av : Value} {Q : Value → Shared → Prop} (X : Base (K0 P) B) (H : St B f N s) (hv : IsVec w f x k iv av) (hi : handedIn iv = true) (h : ∀ s', St B f N s' → Q iv s') : Wp prog w A (getAttr (.ref x) (Str.ofString "items") true) Q s := by
  obtain ⟨dx, t, b, c, h1, h2⟩ := hv
  exact W_getattr X H (H.at h1) (ck_Vector_items P) (H.at h2) ((Mp_skip (by decide +kernel)).trans Mp_hd) hi h
noncomputable def Plan.its : Plan → List It
  | .row _ its _ => its
  | _ => []
/-- a part may be raised to a kind -/
noncomputable def OkUp (p : Plan) (kd : Kd) : Prop := kd = .ls ∨ kd = .ex ∨ (∃ k its hd, p = .row k its hd ∧ k.atomic = true ∧ kd.atomic = true ∧ rank k ≤ rank kd)
theorem same_kind {k kd : Kd} (h : (k.s == kd.s) = true) : k = kd := by
  rw [kd_s_eq] at h
  cases k <;> cases kd <;> first | rfl | exact absurd h (by decide)
theorem partitems_ok (X : Base (K0 P) B) (hA : Room A 6) {n : Nat} {p : Plan} {v : Value} {kd : Kd} {u : Tok} (H : St B f N s) (hv : IsVal prog w f n p v) (ho : OkPlan n p) (hp : p.kd ≠ .nu) (hup : OkUp p kd) {Q : Value → Shared → Prop}
    (h : ∀ b us f' s', Le f f' → At f' b (IsLst us) → us.length = p.size → (kd.atomic = true → All2 IsIt (p.its.map (·.raise p.kd kd)) us) → St B f' N s' → Q (.ref b) s') : Wp prog w A (call (.ref 615) [v, .str kd.s u]) Q s := by
  refine W_enter [("kind", .str kd.s u), ("part", v)] hA (fn_part_items X) X.lim H (body := fBody (st 91)) rfl (.of_eq rfl) (by kernel_rfl) ?_
  intro L s1 H1 R
  conv in fBody _ => whnf
  walk_at "R"
  refine isvec_ok X (R.le (by lia)) (by assumption) hv fun s2 H2 => ?_
  walk_at "R"
  have key : ∀ x k li vs av hd its s3, v = .ref x → IsVec w f x k (.ref li) av → At f li (IsLst vs) → vs.length ≤ 1000 → IsAttrs prog w f hd av → (∀ hs, hd = some hs → hs.length ≤ 1000) → vs.length = p.size → p.kd = k → p.its = its → (kd.atomic = true → All2 IsIt its vs ∧ ∀ y ∈ its, OkIt k y) →
      St B f ((L, HasVars [("kind", .str kd.s u), ("part", v)]) :: N) s3 → Wp prog w (A.deeper (callEnv F615 L 615)) (execs ((fBody (st 91)).drop 1) (callEnv F615 L 615)) (fun fl s'' => Q (match fl with | .ret v => v | _ => .none) s'') s3 := by
    rintro x k li vs av hd its s3 rfl a1 a2 a3 a4 a5 a6 a7 a8 a9 H3
    conv in List.drop _ _ => whnf
    walk_at "R"
    have hc : k = kd ∨ ((k.s == kd.s) = false ∧ ((kd = .ls ∨ kd = .ex) ∨ (k.atomic = true ∧ kd.atomic = true ∧ rank k < rank kd))) := by
      cases e : (k.s == kd.s) with
      | true => exact .inl (same_kind e)
      | false =>
        refine .inr ⟨rfl, ?_⟩
        rcases hup with q | q | ⟨k', its', hd', rfl, q1, q2, q3⟩
        · exact .inl (.inl q)
        · exact .inl (.inr q)
        · have hk : k' = k := a7
          subst hk
          refine .inr ⟨q1, q2, ?_⟩
          rcases Nat.lt_or_ge (rank k') (rank kd) with r | r
          · exact r
          · have : k' = kd := by cases k' <;> cases kd <;> first | rfl | (cases q1; done) | (cases q2; done) | exact absurd q3 (by decide) | exact absurd r (by decide)
            rw [this] at e; simp at e
    refine askind_ok X R (by assumption) a1 a2 a3 a4 a5 hc a9 fun y dy b us t f' av' b1 b2 s4 hl hus hr hav H4 => ?_
    walk_at "R"
    obtain ⟨f2, le2, H5, k5⟩ := (show St B f' ((b, IsLst us) :: (L, HasVars [("kind", .str kd.s u), ("part", .ref x)]) :: N) _ by walk_at "arr").freeze
    refine h b us f2 _ (hl.trans le2) k5 (hus.trans a6) (fun e => ?_) (by walk_at "arr")
    rw [a8, a7]
    exact hr e
  cases p with
  | nothing => exact absurd rfl hp
  | name =>
    rw [if_pos (by rfl)]
    walk_at "R"
    refine sharesym_ok X (R.le (by lia)) (by assumption) hv fun s3 H3 => ?_
    walk_at "R"
    rename_i b s5 H5
    obtain ⟨f2, le2, H6, k6⟩ := H5.freeze
    refine h b _ f2 _ le2 k6 rfl (fun e => ?_) (by walk_at "arr")
    rcases hup with rfl | rfl | ⟨k', its', hd', q, _⟩
    · cases e
    · cases e
    · cases q
  | row k its hd =>
    rw [if_neg (by simp [Plan.isVec])]
    rw [IsVal_row] at hv
    rw [OkPlan_row] at ho
    obtain ⟨x, iv, av, rfl, a1, ⟨li, vs, rfl, a2, a3⟩, a4⟩ := hv
    obtain ⟨o1, o2, o3, o4⟩ := ho
    refine W_nil ?_
    try dsimp only
    exact key x k li vs av hd its _ rfl a1 a2 (by rw [← a3.length]; lia) a4 (fun hs e => by have := (o4 hs e).1; lia) a3.length.symm rfl rfl (fun _ => ⟨a3, o3⟩) (by assumption)
  | tree k kids hd =>
    rw [if_neg (by simp [Plan.isVec])]
    cases n with
    | zero => exact hv.elim
    | succ n =>
      obtain ⟨x, iv, av, rfl, a1, ⟨li, vs, rfl, a2, a3⟩, a4⟩ := hv
      obtain ⟨o1, o2, o3, o4⟩ := ho
      refine W_nil ?_
      try dsimp only
      refine key x k li vs av hd [] _ rfl a1 a2 (by rw [← a3.length]; lia) a4 (fun hs e => by have := (o4 hs e).1; lia) a3.length.symm rfl rfl (fun e => ?_) (by assumption)
      rcases hup with rfl | rfl | ⟨k', its', hd', q, _⟩
      · cases e
      · cases e
      · cases q
end
noncomputable def Met (c : Nat) : Pd := fun o => ∃ t, LstW #[.int (c : Nat) t] o
noncomputable def IsPart (prog : Program) (w : World) (f : Heap) (p : Plan) (v : Value) : Prop := ∃ n, IsVal prog w f n p v ∧ OkPlan n p ∧ p.kd ≠ .nu
section
variable {prog : Program} {w : World} {P : Params} {B : Shared} {f : Heap} {N : Led} {s : Shared} {A : Around} {env : Env}
theorem IsPart.mono {f f' : Heap} {p : Plan} {v : Value} (h : IsPart prog w f p v) (hl : Le f f') : IsPart prog w f' p v := let ⟨n, h1, h2⟩ := h; ⟨n, h1.mono hl, h2⟩
noncomputable def GatherP (prog : Program) (w : World) (B : Shared) (pl m : Addr) (op : Bool) (e : Nat) : Prop := ∀ {A : Around} {f : Heap} {N : Led} {s : Shared} {p : Plan} {v : Value} {c dep : Nat} {t : Tok} {ps : List Plan} {us : List Value} {Q : Value → Shared → Prop}, Room A (e + 3) → St B f ((pl, IsLst us) :: (m, Met c) :: N) s → IsVal prog w f e p v → OkPlan e p → c + gsz e ≤ 10000 → dep + e ≤ 100 → us.length ≤ c → All2 (IsPart prog w f) ps us →
      (∀ f' us' c' s', Le f f' → All2 (IsPart prog w f') (ps ++ parts op p) us' → us'.length ≤ c' → c' ≤ c + gsz e → St B f' ((pl, IsLst us') :: (m, Met c') :: N) s' → Q .none s') → Wp prog w A (call (.ref 608) [v, .bool op, .ref pl, .ref m, .int dep t]) Q s
theorem gather_step (X : Base (K0 P) B) {m pl : Addr} (op : Bool) (n : Nat)
    (ih : ∀ e, n = e + 1 → GatherP prog w B pl m op e)
    {A : Around} {f : Heap} {N : Led} {s : Shared} {p : Plan} {v : Value} {c dep : Nat} {t : Tok} {ps : List Plan} {us : List Value} {Q : Value → Shared → Prop} (hA : Room A (n + 3)) (H : St B f ((pl, IsLst us) :: (m, Met c) :: N) s) (hv : IsVal prog w f n p v) (ho : OkPlan n p) (hc : c + gsz n ≤ 10000) (hdep : dep + n ≤ 100) (hus : us.length ≤ c) (hps : All2 (IsPart prog w f) ps us)
    (h : ∀ f' us' c' s', Le f f' → All2 (IsPart prog w f') (ps ++ parts op p) us' → us'.length ≤ c' → c' ≤ c + gsz n → St B f' ((pl, IsLst us') :: (m, Met c') :: N) s' → Q .none s') : Wp prog w A (call (.ref 608) [v, .bool op, .ref pl, .ref m, .int dep t]) Q s := by
  have hg : 1 ≤ gsz n := by cases n <;> simp [gsz] <;> lia
  refine W_enter [("depth", .int dep t), ("met", .ref m), ("parts", .ref pl), ("recurse", .bool op), ("v", v)] hA (fn_gather X) X.lim H (body := fBody (st 90)) rfl (.of_eq rfl) (by kernel_rfl) ?_
  intro L s1 H1 R
  conv in fBody _ => whnf
  obtain ⟨tm, H2⟩ := (show St B f ((m, Met c) :: (pl, IsLst us) :: (L, HasVars [("depth", .int dep t), ("met", .ref m), ("parts", .ref pl), ("recurse", .bool op), ("v", v)]) :: N) s1 by walk_at "arr").ex
  clear H1
  walk_at "R"
  refine W_glob (by assumption) (by assumption) (by kernel_rfl) (nm_MOST_DEPTH _) ?_
  walk_at "R"
  rw [if_neg (by simp; lia)]
  walk_at "R"
  refine (show ((c : Int) + 1) = ((c + 1 : Nat) : Int) by lia) ▸ room_ok X (R.le (by lia)) (by lia) (by assumption) fun t3 s3 H3 => ?_
  walk_at "R"
  refine W_set0 (by walk_at "pull") ?_
  intro s5 H5
  replace H5 : St B f ((m, Met (c + 1)) :: (pl, IsLst us) :: (L, HasVars [("depth", .int dep t), ("met", .ref m), ("parts", .ref pl), ("recurse", .bool op), ("v", v)]) :: N) s5 := H5.imp fun o ho => ⟨_, ho⟩
  walk_at "R"
  refine W_kind X (by assumption) hv.kind fun t4 s6 H6 => ?_
  walk_at "R"
  rw [kd_null]
  by_cases hnu : p = .nothing
  · subst hnu
    rw [if_pos (by rfl)]
    walk_at "R"
    exact h f us (c + 1) _ (Le.refl f) (by rw [parts, List.append_nil]; exact hps) (by lia) (by lia) (by walk_at "arr")
  have hnk : p.kd ≠ .nu := by
    intro e
    cases p with
    | nothing => exact hnu rfl
    | name => cases e
    | row k its hd => rw [OkPlan_row] at ho; have : k = .nu := e; subst this; cases ho.1
    | tree k kids hd =>
      cases n with
      | zero => exact ho.elim
      | succ n => have : k = .nu := e; subst this; cases ho.1
  rw [show p.kd.isNu = false by cases hk : p.kd <;> first | exact absurd hk hnk | rfl, if_neg Bool.false_ne_true]
  walk_at "R"
  refine opens_ok X (R.le (by lia)) (by assumption) hv.kind fun s7 H7 => ?_
  have leafcase : (op && p.kd.treeish) = false → parts op p = [p] := by
    intro e
    cases p with
    | nothing => exact absurd rfl hnu
    | name => rfl
    | row => rfl
    | tree k kids hd =>
      rw [parts]
      cases n with
      | zero => exact ho.elim
      | succ n =>
        have h1 : k.treeish = true := ho.1
        have : op = false := by
          cases op
          · rfl
          · rw [show (Plan.tree k kids hd).kd = k from rfl, h1] at e; cases e
        rw [this, if_neg Bool.false_ne_true]
  cases hop : (op && p.kd.treeish) with
  | false =>
    walk_at "R"
    refine W_append (by walk_at "pull") (by lia) fun s8 H8 => ?_
    walk_at "R"
    exact h f _ (c + 1) _ (Le.refl f) (by rw [leafcase hop]; exact hps.snoc ⟨n, hv, ho, hnk⟩) (by simp; lia) (by lia) (by walk_at "arr")
  | true =>
    rw [Bool.and_eq_true] at hop
    obtain ⟨rfl, htr⟩ := hop
    cases p with
    | nothing => exact absurd rfl hnu
    | name => cases htr
    | row k its hd => rw [OkPlan_row] at ho; have e1 : k.treeish = true := htr; have e2 := ho.1; cases k <;> first | (cases e1; done) | (cases e2; done)
    | tree k kids hd =>
      cases n with
      | zero => exact ho.elim
      | succ n =>
      obtain ⟨x, iv, av, rfl, ⟨dx, tx, b1, b2, a1, a2⟩, ⟨li, vs, rfl, a3, a4⟩, a5⟩ := hv
      walk_at "R"
      refine W_iter_list (by assumption) R.hh (a3.imp fun _ => IsLst.w) ?_
      intro it s9 I9 H9
      refine W_loopG I9 (fun j f' N' => ∃ us' c', All2 (IsPart prog w f') (ps ++ partsL true (kids.take j)) us' ∧ us'.length ≤ c' ∧ c' ≤ c + 1 + j * gsz n ∧ N' = (pl, IsLst us') :: (m, Met c') :: (L, HasVars [("depth", .int dep t), ("met", .ref m), ("parts", .ref pl), ("recurse", .bool true)]) :: N)
        (St.arrv L (by assumption) (by walk_at "ext") (by walk_at "sel") (by walk_at "amp")) (Le.refl _) ⟨us, c + 1, by rw [List.take_zero, partsL, List.append_nil]; exact hps, by lia, by lia, rfl⟩ ?_ ?_
      · rintro Q1 i f' N' s10 v hn hi hl ⟨us', c', g1, g2, g3, rfl⟩ hvi H10
        obtain ⟨q, hq, hvq⟩ := a4.get (i := i) (by simpa using hvi)
        have hi3 : i < 3 := by have := ho.2.1; have := a4.length; simp at hi; lia
        have hqk := List.mem_of_getElem? hq
        have hm3 : i * gsz n + gsz n ≤ 3 * gsz n := by have := Nat.mul_le_mul_right (gsz n) (show i + 1 ≤ 3 by lia); rw [Nat.succ_mul] at this; exact this
        simp only [gsz] at hc
        walk_at "R"
        rw [show ((dep : Int) + 1) = ((dep + 1 : Nat) : Int) from rfl]
        refine ih n rfl (R.le (by lia)) (by walk_at "arr") (hvq.mono hl) (ho.2.2.1 q hqk) (by lia) (by lia) g2 g1 fun f2 us2 c2 s11 hl2 k1 k2 k3 H11 => ?_
        walk_at "R"
        refine ⟨f2, _, hl.trans hl2, ⟨us2, c2, ?_, k2, ?_, rfl⟩, St.arrv L (by assumption) (by walk_at "ext") (by walk_at "sel") (by walk_at "amp")⟩
        · rw [List.take_succ, hq, partsL_app, ← List.append_assoc]
          rw [show (some q).toList = [q] from rfl, partsL_one]
          exact k1
        · rw [Nat.succ_mul]; lia
      · rintro f' N' s10 hl ⟨us', c', g1, g2, g3, rfl⟩ H10
        rw [List.take_of_length_le (by rw [a4.length]; simp)] at g1
        have hm3 : vs.toArray.size * gsz n ≤ 3 * gsz n := Nat.mul_le_mul_right _ (by have := ho.2.1; have := a4.length; simp; lia)
        walk_at "R"
        exact h f' us' c' _ hl (by rw [parts, if_pos rfl]; exact g1) g2 (by simp only [gsz]; lia) (by walk_at "arr")
theorem gather_ok (X : Base (K0 P) B) {m pl : Addr} (op : Bool) : ∀ n, GatherP prog w B pl m op n :=
  byN fun n ih => fun hA H hv ho hc hdep hus hps h => gather_step X op n ih hA H hv ho hc hdep hus hps h
end
section
variable {prog : Program} {w : World} {P : Params} {B : Shared} {f : Heap} {N : Led} {s : Shared} {A : Around} {env : Env}
noncomputable def CountP (prog : Program) (w : World) (B : Shared) (op : Bool) (n : Nat) : Prop := ∀ {A : Around} {f : Heap} {N : Led} {s : Shared} {p : Plan} {v : Value} {Q : Value → Shared → Prop}, Room A (n + 2) → St B f N s → IsVal prog w f n p v → OkPlan n p →
      (∀ t s', St B f N s' → Q (.int (cl op p : Nat) t) s') → Wp prog w A (call (.ref 552) [v, .bool op]) Q s
theorem count_ok (X : Base (K0 P) B) (op : Bool) : ∀ n, CountP prog w B op n := by
  refine byN fun n ih => ?_
  intro A f N s p v Q hA H hv ho h
  refine W_enter [("recurse", .bool op), ("v", v)] hA (fn_count_leaves X) X.lim H (body := fBody (st 82)) rfl (.of_eq rfl) (by kernel_rfl) ?_
  intro L s1 H1 R
  conv in fBody _ => whnf
  walk_at "R"
  refine W_kind X (by assumption) hv.kind fun t4 s6 H6 => ?_
  walk_at "R"
  rw [kd_null]
  cases p with
  | nothing =>
    rw [if_pos (by rfl)]
    walk_at "R"
    exact h _ _ (by walk_at "arr")
  | name =>
    rw [show Plan.name.kd.isNu = false from rfl, if_neg Bool.false_ne_true]
    walk_at "R"
    refine isvec_ok X (R.le (by lia)) (by assumption) hv fun s2 H2 => ?_
    rw [show Plan.name.isVec = false from rfl]
    walk_at "R"
    exact h _ _ (by walk_at "arr")
  | row k its hd =>
    have hv' := hv
    rw [IsVal_row] at hv'
    rw [OkPlan_row] at ho
    obtain ⟨x, iv, av, rfl, a1, ⟨li, vs, rfl, a2, a3⟩, a4⟩ := hv'
    have hk : k.isNu = false := by have := ho.1; cases k <;> first | rfl | (cases this; done)
    rw [show (Plan.row k its hd).kd.isNu = k.isNu from rfl, hk]
    walk_at "R"
    refine isvec_ok X (R.le (by lia)) (by assumption) hv fun s2 H2 => ?_
    rw [show (Plan.row k its hd).isVec = true from rfl]
    walk_at "R"
    refine opens_ok X (R.le (by lia)) (by assumption) a1.kind fun s7 H7 => ?_
    rw [show (op && k.treeish) = false by have := ho.1; cases k <;> first | (cases this; done) | (cases op <;> rfl)]
    obtain ⟨dx, tx, b1, b2, g1, g2⟩ := a1
    walk_at "R"
    refine W_lenL (by assumption) (St.at (by assumption) a2) (by rw [← a3.length]; lia) fun t s3 H3 => ?_
    rw [← a3.length]
    exact h _ _ (by walk_at "arr")
  | tree k kids hd =>
    cases n with
    | zero => exact hv.elim
    | succ n =>
    have hv' := hv
    obtain ⟨x, iv, av, rfl, a1, ⟨li, vs, rfl, a2, a3⟩, a4⟩ := hv'
    have hk : k.isNu = false := by have := ho.1; cases k <;> first | rfl | (cases this; done)
    rw [show (Plan.tree k kids hd).kd.isNu = k.isNu from rfl, hk]
    walk_at "R"
    refine isvec_ok X (R.le (by lia)) (by assumption) hv fun s2 H2 => ?_
    rw [show (Plan.tree k kids hd).isVec = true from rfl]
    walk_at "R"
    refine opens_ok X (R.le (by lia)) (by assumption) a1.kind fun s7 H7 => ?_
    rw [show (op && k.treeish) = op by rw [ho.1, Bool.and_true]]
    obtain ⟨dx, tx, b1, b2, g1, g2⟩ := a1
    rw [cl] at h
    cases op with
    | false =>
      walk_at "R"
      refine W_lenL (by assumption) (St.at (by assumption) a2) (by rw [← a3.length]; have := ho.2.1; lia) fun t s3 H3 => ?_
      rw [← a3.length]
      exact h _ _ (by walk_at "arr")
    | true =>
      rw [if_pos rfl] at h
      walk_at "R"
      rename_i t0 _ _ _ _ _ _
      refine W_iter_list (by assumption) R.hh (a2.imp fun _ => IsLst.w) ?_
      intro it s9 I9 H9
      refine W_loopG I9 (fun j f' N' => f = f' ∧ ∃ t, N' = (L, HasVars [("total", .int (clL true (kids.take j) : Nat) t), ("recurse", .bool true)]) :: N)
        (St.arrv L (by assumption) (by walk_at "ext") (by walk_at "sel") (by walk_at "amp")) (Le.refl _) ⟨rfl, t0, rfl⟩ ?_ ?_
      · rintro Q1 i f' N' s10 v hn hi hl ⟨rfl, t, rfl⟩ hvi H10
        obtain ⟨q, hq, hvq⟩ := a3.get (i := i) (by simpa using hvi)
        walk_at "R"
        refine ih n rfl (R.le (by lia)) (by assumption) hvq (ho.2.2.1 q (List.mem_of_getElem? hq)) fun t2 s11 H11 => ?_
        refine W_iadd (by assumption) fun t3 s12 H12 => ?_
        walk_at "R"
        rw [show ((clL true (kids.take i) : Nat) : Int) + ((cl true q : Nat) : Int) = ((clL true (kids.take (i + 1)) : Nat) : Int) by rw [List.take_succ, hq, clL_app, show (some q).toList = [q] from rfl, clL_one]; simp] at *
        exact ⟨f, _, Le.refl _, ⟨rfl, _, rfl⟩, St.arrv L (by assumption) (by walk_at "ext") (by walk_at "sel") (by walk_at "amp")⟩
      · rintro f' N' s10 hl ⟨rfl, t, rfl⟩ H10
        rw [List.take_of_length_le (by rw [a3.length]; simp)] at H10
        walk_at "R"
        exact h _ _ (by walk_at "arr")
noncomputable def HasnP (prog : Program) (w : World) (B : Shared) (op : Bool) (n : Nat) : Prop := ∀ {A : Around} {f : Heap} {N : Led} {s : Shared} {p : Plan} {v : Value} {Q : Value → Shared → Prop}, Room A (n + 4) → St B f N s → IsVal prog w f n p v → OkPlan n p →
      (∀ s', St B f N s' → Q (.bool (Mine.hn op p)) s') → Wp prog w A (call (.ref 594) [v, .bool op]) Q s
theorem hasn_ok (X : Base (K0 P) B) (op : Bool) : ∀ n, HasnP prog w B op n := by
  refine byN fun n ih => ?_
  intro A f N s p v Q hA H hv ho h
  refine W_enter [("recurse", .bool op), ("v", v)] hA (fn_has_names X) X.lim H (body := fBody (st 88)) rfl (.of_eq rfl) (by kernel_rfl) ?_
  intro L s1 H1 R
  conv in fBody _ => whnf
  walk_at "R"
  refine isvec_ok X (R.le (by lia)) (by assumption) hv fun s2 H2 => ?_
  cases p with
  | nothing =>
    rw [show Plan.nothing.isVec = false from rfl]
    walk_at "R"
    exact h _ (by walk_at "arr")
  | name =>
    rw [show Plan.name.isVec = false from rfl]
    walk_at "R"
    exact h _ (by walk_at "arr")
  | row k its hd =>
    rw [IsVal_row] at hv
    rw [OkPlan_row] at ho
    obtain ⟨x, iv, av, rfl, a1, ⟨li, vs, rfl, a2, a3⟩, a4⟩ := hv
    rw [show (Plan.row k its hd).isVec = true from rfl]
    rw [hn] at h
    walk_at "R"
    refine names_ok X (R.le (by lia)) (by assumption) a1 a4 (fun hs e => by have := (ho.2.2.2 hs e).1; have := ho.2.1; lia) ?_ ?_
    · rintro rfl s3 H3
      walk_at "R"
      rw [if_neg (by simp)]
      walk_at "R"
      refine opens_ok X (R.le (by lia)) (by assumption) a1.kind fun s7 H7 => ?_
      rw [show (op && k.treeish) = false by have := ho.1; cases k <;> first | (cases this; done) | (cases op <;> rfl)]
      walk_at "R"
      exact h _ (by walk_at "arr")
    · rintro hs rfl b us s3 hus H3
      walk_at "R"
      rw [if_pos (by simp)]
      walk_at "R"
      exact h _ (by walk_at "arr")
  | tree k kids hd =>
    cases n with
    | zero => exact hv.elim
    | succ n =>
    obtain ⟨x, iv, av, rfl, a1, ⟨li, vs, rfl, a2, a3⟩, a4⟩ := hv
    rw [show (Plan.tree k kids hd).isVec = true from rfl]
    rw [hn] at h
    walk_at "R"
    refine names_ok X (R.le (by lia)) (by assumption) a1 a4 (fun hs e => by have := (ho.2.2.2 hs e).1; have := ho.2.1; lia) ?_ ?_
    · rintro rfl s3 H3
      walk_at "R"
      rw [if_neg (by simp)]
      walk_at "R"
      refine opens_ok X (R.le (by lia)) (by assumption) a1.kind fun s7 H7 => ?_
      rw [show (op && k.treeish) = op by rw [ho.1, Bool.and_true]]
      rw [show (none : Option (List Nm)).isSome = false from rfl, Bool.false_or] at h
      cases op with
      | false =>
        walk_at "R"
        exact h _ (by walk_at "arr")
      | true =>
        obtain ⟨dx, tx, b1, b2, g1, g2⟩ := a1
        rw [Bool.true_and] at h
        walk_at "R"
        refine W_iter_list (by assumption) R.hh (a2.imp fun _ => IsLst.w) ?_
        intro it s9 I9 H9
        refine W_loopG I9 (fun j f' N' => f = f' ∧ hnL true (kids.take j) = false ∧ N' = (L, HasVars [("recurse", .bool true)]) :: N)
          (St.arrv L (by assumption) (by walk_at "ext") (by walk_at "sel") (by walk_at "amp")) (Le.refl _) ⟨rfl, rfl, rfl⟩ ?_ ?_
        · rintro Q1 i f' N' s10 v hn hi hl ⟨rfl, hf, rfl⟩ hvi H10
          obtain ⟨q, hq, hvq⟩ := a3.get (i := i) (by simpa using hvi)
          walk_at "R"
          refine ih n rfl (R.le (by lia)) (by assumption) hvq (ho.2.2.1 q (List.mem_of_getElem? hq)) fun s11 H11 => ?_
          have hsplit : hnL true kids = (hnL true (kids.take i) || (Mine.hn true q || hnL true (kids.drop (i + 1)))) := by
            conv => lhs; rw [← List.take_append_drop i kids, hnL_app]
            congr 1
            obtain ⟨hlt, hget⟩ := List.getElem?_eq_some_iff.mp hq
            rw [List.drop_eq_getElem_cons hlt, hget, hnL]
          cases hq2 : Mine.hn true q with
          | true =>
            walk_at "R"
            rw [hsplit, hf, hq2] at h
            exact h _ (by walk_at "arr")
          | false =>
            walk_at "R"
            refine ⟨f, _, Le.refl _, ⟨rfl, ?_, rfl⟩, St.arrv L (by assumption) (by walk_at "ext") (by walk_at "sel") (by walk_at "amp")⟩
            rw [List.take_succ, hq, hnL_app, hf, show (some q).toList = [q] from rfl, hnL_one, hq2]
            rfl
        · rintro f' N' s10 hl ⟨rfl, hf, rfl⟩ H10
          rw [List.take_of_length_le (by rw [a3.length]; simp)] at hf
          walk_at "R"
          rw [hf] at h
          exact h _ (by walk_at "arr")
    · rintro hs rfl b us s3 hus H3
      walk_at "R"
      rw [if_pos (by simp)]
      walk_at "R"
      exact h _ (by walk_at "arr")
end
noncomputable def RowD (w : World) (l : Addr) (r : NR) : Pd := fun o => ∃ t1 t2, DictIs w.params [("names", .ref l), ("number", .int (r.number : Nat) t1), ("count", .int (r.count : Nat) t2)] o
section
variable {prog : Program} {w : World} {P : Params} {B : Shared} {f : Heap} {N : Led} {s : Shared} {A : Around} {env : Env}
theorem St.rowd {dr l : Addr} {r : NR} (H : St B f ((dr, RowD w l r) :: N) s) : ∃ t1 t2, St B f ((dr, DictIs w.params [("names", .ref l), ("number", .int (r.number : Nat) t1), ("count", .int (r.count : Nat) t2)]) :: N) s := by
  obtain ⟨t1, H1⟩ := H.ex
  obtain ⟨t2, H2⟩ := H1.ex
  exact ⟨t1, t2, H2⟩
theorem St.rowc {dr l : Addr} {a b : Nat} {t1 t2 : Tok} (ns : List Nm) (H : St B f ((dr, DictIs w.params [("names", .ref l), ("number", .int (a : Nat) t1), ("count", .int (b : Nat) t2)]) :: N) s) : St B f ((dr, RowD w l ⟨ns, a, b⟩) :: N) s := H.imp fun o ho => ⟨t1, t2, ho⟩
theorem All2.take_snoc {α β : Type} {R : α → β → Prop} {as : List α} {bs : List β} (h : All2 R as bs) (i : Nat) : All2 R (as.take i) (bs.take i) := by
  induction h generalizing i with
  | nil => simp; exact .nil
  | cons hab _ ih =>
    cases i with
    | zero => exact .nil
    | succ i => exact .cons hab (ih i)
noncomputable def ifB : Stmt → List Stmt
  | .If _ b _ _ => b
  | _ => []
noncomputable def ifE : Stmt → List Stmt
  | .If _ _ e _ => e
  | _ => []
noncomputable def nthS (l : List Stmt) (i : Nat) : Stmt := (l[i]?).getD (.Pass ⟨0, 0, 0, 0⟩)
/-- the names of the leaves -/
theorem leaves_loop (X : Base (K0 P) B) {xr dr l L na : Addr} {base : Nm} {bv tv bf ct : Value} (hA : Room A 3) {ns : List Nm} {nus us : List Value} {r : NR}
    (H : St B f ((L, HasVars [("names", .ref na), ("base", bv), ("row", .ref xr), ("tag", tv), ("before", bf), ("count", ct)]) :: (xr, IsInst 534 dr) :: (dr, RowD w l r) :: (l, IsLst us) :: N) s)
    (hr : All2 IsNm r.names us) (hna : At f na (IsLst nus)) (hns : All2 IsNm ns nus) (hok : ∀ n ∈ ns, OkNm n) (hb : IsNm base bv) (hlb : (txt base).length ≤ 1000) (h1 : r.names.length + ns.length ≤ 10000) (h2 : r.number + ns.length ≤ 10000) {Q : Flow → Shared → Prop}
    (h : ∀ us' s', All2 IsNm (leafL base ns r).names us' → St B f ((L, HasVars [("row", .ref xr), ("tag", tv), ("before", bf), ("count", ct)]) :: (xr, IsInst 534 dr) :: (dr, RowD w l (leafL base ns r)) :: (l, IsLst us') :: N) s' → Q .next s') :
    Wp prog w A (execs (ifE (nthS (ifB (nthS (fBody (st 87)) 3)) 2)) (callEnv F587 L 587)) Q s := by
  conv in ifE _ => whnf
  walk_at "R"
  refine W_iter_list (by assumption) hA.hh (hna.imp fun _ => IsLst.w) ?_
  intro it s2 I2 H2
  refine W_loopG I2 (fun j f' N' => f = f' ∧ ∃ us', All2 IsNm (leafL base (ns.take j) r).names us' ∧ N' = (L, HasVars [("names", .ref na), ("base", bv), ("row", .ref xr), ("tag", tv), ("before", bf), ("count", ct)]) :: (xr, IsInst 534 dr) :: (dr, RowD w l (leafL base (ns.take j) r)) :: (l, IsLst us') :: N) H2 (Le.refl _) ⟨rfl, us, hr, rfl⟩ ?_ ?_
  · rintro Q1 i f' N' s3 v hn hi hle ⟨rfl, us', g1, rfl⟩ hv H3
    obtain ⟨n, hn1, hn2⟩ := hns.get (i := i) (by simpa using hv)
    have hlen := leafL_len base (ns.take i) r
    have hi2 : i < ns.length := (List.getElem?_eq_some_iff.mp hn1).1
    have htk : (ns.take i).length = i := by rw [List.length_take]; lia
    rw [htk] at hlen
    obtain ⟨e1, e2, e3⟩ := hlen
    have hnk := hok n (List.mem_of_getElem? hn1)
    have hstep : leafL base (ns.take (i + 1)) r = ⟨(leafL base (ns.take i) r).names ++ [leafName base n ((leafL base (ns.take i) r).number + 1) (leafL base (ns.take i) r).count], (leafL base (ns.take i) r).number + 1, (leafL base (ns.take i) r).count⟩ := by
      rw [List.take_succ, hn1, leafL_app]; rfl
    generalize leafL base (ns.take i) r = ri at *
    obtain ⟨t1, t2, H4⟩ := (show St B f ((dr, RowD w l ri) :: (it, ItList na (i + 1)) :: (L, HasVars [("names", .ref na), ("base", bv), ("row", .ref xr), ("tag", tv), ("before", bf), ("count", ct)]) :: (xr, IsInst 534 dr) :: (l, IsLst us') :: N) s3 by walk_at "arr").rowd
    walk_at "R"
    refine leaf_ok X hA (num := ri.number + 1) (by walk_at "arr") hb hn2 (by have := hnk.len; lia) (by lia) fun v2 s6 hv2 H6 => ?_
    walk_at "R"
    refine W_append (by walk_at "pull") (by have := g1.length; lia) fun s7 H7 => ?_
    walk_at "R"
    obtain ⟨t3, H8⟩ : ∃ t3, St B f ((dr, DictIs w.params [("names", .ref l), ("number", .int ((ri.number + 1 : Nat) : Int) t3), ("count", .int (ri.count : Nat) t2)]) :: (it, ItList na (i + 1)) :: (L, HasVars [("names", .ref na), ("base", bv), ("row", .ref xr), ("tag", tv), ("before", bf), ("count", ct)]) :: (xr, IsInst 534 dr) :: (l, IsLst (us' ++ [v2])) :: N) s7 := ⟨_, St.arrv L (by assumption) (by walk_at "ext") (by walk_at "sel") (by walk_at "amp")⟩
    replace H8 := H8.rowc (ri.names ++ [leafName base n (ri.number + 1) ri.count])
    rw [hstep]
    exact ⟨f, _, Le.refl _, ⟨rfl, us' ++ [v2], g1.snoc hv2, rfl⟩, by walk_at "arr"⟩
  · rintro f' N' s3 hle ⟨rfl, us', g1, rfl⟩ H3
    rw [List.take_of_length_le (by rw [hns.length]; simp)] at g1 H3
    walk_at "R"
    exact h us' _ g1 (St.arrv L (by assumption) (by walk_at "ext") (by walk_at "sel") (by walk_at "amp"))
end
section
variable {prog : Program} {w : World} {P : Params} {B : Shared} {f : Heap} {N : Led} {s : Shared} {A : Around} {env : Env}
noncomputable def ExtP (prog : Program) (w : World) (B : Shared) (xr dr l : Addr) (op : Bool) (n : Nat) : Prop := ∀ {A : Around} {f : Heap} {N : Led} {s : Shared} {p : Plan} {v : Value} {base tag : Nm} {bv tv : Value} {r : NR} {us : List Value} {Q : Value → Shared → Prop}, Room A (n + 6) →
  St B f ((xr, IsInst 534 dr) :: (dr, RowD w l r) :: (l, IsLst us) :: N) s → IsVal prog w f n p v → OkPlan n p → IsNm base bv → IsNm tag tv → OkNm tag → (txt base).length + 3 * (n + 1) ≤ 1000 → All2 IsNm r.names us → r.names.length + 3 ^ (n + 1) ≤ 5000 → r.number + 3 ^ (n + 1) ≤ 5000 →
  (∀ f' us' s', Le f f' → All2 IsNm (ext op p base tag r).names us' → St B f' ((xr, IsInst 534 dr) :: (dr, RowD w l (ext op p base tag r)) :: (l, IsLst us') :: N) s' → Q .none s') → Wp prog w A (call (.ref 587) [v, bv, tv, .bool op, .ref xr]) Q s
theorem ext_ok (X : Base (K0 P) B) {xr dr l : Addr} (op : Bool) : ∀ n, ExtP prog w B xr dr l op n := by
  refine byN fun n ih => ?_
  intro A f N s p v base tag bv tv r us Q hA H hv ho hb ht hot hlb hr hn1 hn2 h
  refine W_enter [("row", .ref xr), ("recurse", .bool op), ("tag", tv), ("base", bv), ("v", v)] hA (fn_extract_names X) X.lim H (body := fBody (st 87)) rfl (.of_eq rfl) (by kernel_rfl) ?_
  intro L s1 H1 R
  have fin : ∀ f1 us1 r1 bef cnt t1 t2 s2, Le f f1 → All2 IsNm r1.names us1 → (tag ≠ nm0 → ext op p base tag r = ⟨r1.names, r1.number + bef, cnt⟩) → (tag = nm0 → ext op p base tag r = r1) →
      St B f1 ((L, HasVars [("row", .ref xr), ("tag", tv), ("before", .int (bef : Nat) t1), ("count", .int (cnt : Nat) t2)]) :: (xr, IsInst 534 dr) :: (dr, RowD w l r1) :: (l, IsLst us1) :: N) s2 →
      Wp prog w (A.deeper (callEnv F587 L 587)) (execs ((fBody (st 87)).drop 4) (callEnv F587 L 587)) (fun fl s'' => Q (match fl with | .ret v => v | _ => .none) s'') s2 := by
    intro f1 us1 r1 bef cnt t1 t2 s2 hl hus hr1 hr2 H2
    conv in List.drop _ _ => whnf
    obtain ⟨t3, t4, H3⟩ := (show St B f1 ((dr, RowD w l r1) :: (L, HasVars [("row", .ref xr), ("tag", tv), ("before", .int (bef : Nat) t1), ("count", .int (cnt : Nat) t2)]) :: (xr, IsInst 534 dr) :: (l, IsLst us1) :: N) s2 by walk_at "arr").rowd
    walk_at "R"
    refine nm_ne ht ?_
    walk_at "R"
    cases hq : (tag != some (Str.ofString ""))
    · have q := nq3 hq
      walk_at "R"
      rename_i H9
      rw [hr2 q] at h
      exact h f1 us1 _ hl hus (St.sel (St.rowc r1.names (show St B f1 ((dr, DictIs w.params [("names", .ref l), ("number", .int (r1.number : Nat) t3), ("count", .int (r1.count : Nat) t4)]) :: (xr, IsInst 534 dr) :: (l, IsLst us1) :: N) _ by walk_at "arr")) (by walk_at "sel"))
    · have q := nq4 hq
      walk_at "R"
      rw [hr1 q] at h
      obtain ⟨t5, H9⟩ : ∃ t5, St B f1 ((dr, DictIs w.params [("names", .ref l), ("number", .int ((r1.number + bef : Nat) : Int) t5), ("count", .int (cnt : Nat) t2)]) :: (xr, IsInst 534 dr) :: (l, IsLst us1) :: N) _ := ⟨_, by walk_at "arr"⟩
      exact h f1 us1 _ hl hus (St.sel (St.rowc r1.names H9) (by walk_at "sel"))
  have mid : ∀ base1 bv1 bef cnt r1 us1 t1 t2 s2, IsNm base1 bv1 → (txt base1).length + 3 * n ≤ 1000 → All2 IsNm r1.names us1 → r1.names.length + 3 ^ (n + 1) ≤ 5000 → r1.number + 3 ^ (n + 1) ≤ 5000 →
      (tag ≠ nm0 → ext op p base tag r = ⟨(extB op p base1 r1).names, (extB op p base1 r1).number + bef, cnt⟩) → (tag = nm0 → ext op p base tag r = extB op p base1 r1) →
      St B f ((L, HasVars [("base", bv1), ("row", .ref xr), ("recurse", .bool op), ("tag", tv), ("v", v), ("before", .int (bef : Nat) t1), ("count", .int (cnt : Nat) t2)]) :: (xr, IsInst 534 dr) :: (dr, RowD w l r1) :: (l, IsLst us1) :: N) s2 →
      Wp prog w (A.deeper (callEnv F587 L 587)) (execs ((fBody (st 87)).drop 3) (callEnv F587 L 587)) (fun fl s'' => Q (match fl with | .ret v => v | _ => .none) s'') s2 := by
    intro base1 bv1 bef cnt r1 us1 t1 t2 s2 hb1 hlb1 hus hm1 hm2 hr1 hr2 H2
    conv in List.drop _ _ => whnf
    walk_at "R"
    refine W_kind X (by assumption) hv.kind fun t4 s6 H6 => ?_
    walk_at "R"
    rw [kd_nnull]
    have leaf : ∀ f2 na ns nus s3 (Q' : Flow → Shared → Prop), Le f f2 → At f2 na (IsLst nus) → All2 IsNm ns nus → (∀ n ∈ ns, OkNm n) → ns.length ≤ 3 → extB op p base1 r1 = leafL base1 ns r1 →
        St B f2 ((L, HasVars [("names", .ref na), ("base", bv1), ("row", .ref xr), ("tag", tv), ("before", .int (bef : Nat) t1), ("count", .int (cnt : Nat) t2)]) :: (xr, IsInst 534 dr) :: (dr, RowD w l r1) :: (l, IsLst us1) :: N) s3 →
        (∀ s4, Wp prog w (A.deeper (callEnv F587 L 587)) (execs ((fBody (st 87)).drop 4) (callEnv F587 L 587)) (fun fl s'' => Q (match fl with | .ret v => v | _ => .none) s'') s4 → Q' .next s4) →
        Wp prog w (A.deeper (callEnv F587 L 587)) (execs (ifE (nthS (ifB (nthS (fBody (st 87)) 3)) 2)) (callEnv F587 L 587)) Q' s3 := by
      intro f2 na ns nus s3 Q' hl hna hns hok hn3 he H3 hQ
      have h9 : 3 ≤ 3 ^ (n + 1) := Nat.le_self_pow (by lia) 3
      refine leaves_loop X (R.le (by lia)) H3 hus hna hns hok hb1 (by lia) (by lia) (by lia) fun us' s' hus' H' => hQ _ ?_
      exact fin f2 us' _ bef cnt t1 t2 s' hl hus' (fun q => by rw [hr1 q, he]) (fun q => by rw [hr2 q, he]) H'
    cases p with
    | nothing =>
      rw [show Plan.nothing.kd.isNu = true from rfl, Bool.not_true, if_neg Bool.false_ne_true]
      refine W_nil ?_
      try dsimp only
      exact fin f us1 r1 bef cnt t1 t2 _ (Le.refl f) hus (fun q => by rw [hr1 q, extB]) (fun q => by rw [hr2 q, extB]) (St.arrv L (by assumption) (by walk_at "ext") (by walk_at "sel") (by walk_at "amp"))
    | name =>
      rw [show Plan.name.kd.isNu = false from rfl]
      walk_at "R"
      refine isvec_ok X (R.le (by lia)) (by assumption) hv fun s7 H7 => ?_
      rw [show Plan.name.isVec = false from rfl]
      walk_at "R"
      refine opens_ok X (R.le (by lia)) (by assumption) hv.kind fun s8 H8 => ?_
      rw [show (op && Plan.name.kd.treeish) = false by cases op <;> rfl]
      refine W_truth ?_
      rw [if_neg Bool.false_ne_true]
      rename_i tna _ _ na _ _ _ _
      obtain ⟨f2, le2, H9, k9⟩ := (show St B f ((na, IsLst [.str (Str.ofString "") tna]) :: (L, HasVars [("names", .ref na), ("base", bv1), ("row", .ref xr), ("tag", tv), ("before", .int (bef : Nat) t1), ("count", .int (cnt : Nat) t2)]) :: (xr, IsInst 534 dr) :: (dr, RowD w l r1) :: (l, IsLst us1) :: N) _ from St.arrv L (by assumption) (by walk_at "ext") (by walk_at "sel") (by walk_at "amp")).freeze
      refine leaf f2 na [nm0] _ _ _ le2 k9 (.cons ⟨_, rfl⟩ .nil) (fun n hn => by rw [List.mem_singleton.mp hn]; intro x e; cases e; decide +kernel) (by decide) (by rw [extB]) H9 fun s4 h4 => ?_
      try dsimp only
      exact W_nil h4
    | row k its hd =>
      have ho' := ho
      rw [OkPlan_row] at ho'
      have hv' := hv
      rw [IsVal_row] at hv'
      obtain ⟨x, iv, av, rfl, a1, ⟨li, vs, rfl, a2, a3⟩, a4⟩ := hv'
      rw [show (Plan.row k its hd).kd.isNu = false by have := ho'.1; cases k <;> first | rfl | (cases this; done)]
      walk_at "R"
      refine isvec_ok X (R.le (by lia)) (by assumption) hv fun s7 H7 => ?_
      rw [show (Plan.row k its hd).isVec = true from rfl]
      walk_at "R"
      refine plain_ok X (R.le (by lia)) (by assumption) a1 a2 (by rw [← a3.length]; lia) a4 (fun hs e => by have := (ho'.2.2.2 hs e).1; lia) fun na nus s9 hns H9 => ?_
      rw [← a3.length] at hns
      walk_at "R"
      refine opens_ok X (R.le (by lia)) (by assumption) hv.kind fun s8 H8 => ?_
      rw [show (op && (Plan.row k its hd).kd.treeish) = false by have := ho'.1; cases k <;> first | (cases this; done) | (cases op <;> rfl)]
      refine W_truth ?_
      rw [if_neg Bool.false_ne_true]
      obtain ⟨f2, le2, H9, k9⟩ := (show St B f ((na, IsLst nus) :: (L, HasVars [("names", .ref na), ("base", bv1), ("row", .ref xr), ("tag", tv), ("before", .int (bef : Nat) t1), ("count", .int (cnt : Nat) t2)]) :: (xr, IsInst 534 dr) :: (dr, RowD w l r1) :: (l, IsLst us1) :: N) _ from St.arrv L (by assumption) (by walk_at "ext") (by walk_at "sel") (by walk_at "amp")).freeze
      refine leaf f2 na _ _ _ _ le2 k9 hns ho'.2.2.2.ok (by rw [ho'.2.2.2.len]; exact ho'.2.1) (by rw [extB]) H9 fun s4 h4 => ?_
      try dsimp only
      exact W_nil h4
    | tree k kids hd =>
      cases n with
      | zero => exact hv.elim
      | succ n =>
      have hv' := hv
      obtain ⟨x, iv, av, rfl, a1, ⟨li, vs, rfl, a2, a3⟩, a4⟩ := hv'
      rw [show (Plan.tree k kids hd).kd.isNu = false by have := ho.1; cases k <;> first | rfl | (cases this; done)]
      walk_at "R"
      refine isvec_ok X (R.le (by lia)) (by assumption) hv fun s7 H7 => ?_
      rw [show (Plan.tree k kids hd).isVec = true from rfl]
      walk_at "R"
      have hk3 := ho.2.1
      refine plain_ok X (R.le (by lia)) (by assumption) a1 a2 (by rw [← a3.length]; lia) a4 (fun hs e => by have := (ho.2.2.2 hs e).1; lia) fun na nus s9 hns H9 => ?_
      rw [← a3.length] at hns
      walk_at "R"
      refine opens_ok X (R.le (by lia)) (by assumption) hv.kind fun s8 H8 => ?_
      rw [show (op && (Plan.tree k kids hd).kd.treeish) = op by rw [show (Plan.tree k kids hd).kd.treeish = true from ho.1, Bool.and_true]]
      refine W_truth ?_
      obtain ⟨f2, le2, H9, k9⟩ := (show St B f ((na, IsLst nus) :: (L, HasVars [("names", .ref na), ("base", bv1), ("row", .ref xr), ("tag", tv), ("before", .int (bef : Nat) t1), ("count", .int (cnt : Nat) t2), ("recurse", .bool op), ("v", .ref x)]) :: (xr, IsInst 534 dr) :: (dr, RowD w l r1) :: (l, IsLst us1) :: N) _ from St.arrv L (by assumption) (by walk_at "ext") (by walk_at "sel") (by walk_at "amp")).freeze
      cases op with
      | false =>
        rw [if_neg Bool.false_ne_true]
        refine leaf f2 na _ _ _ _ le2 k9 hns ho.2.2.2.ok (by rw [ho.2.2.2.len]; exact hk3) (by rw [extB, if_neg Bool.false_ne_true]) (St.arrv L (by assumption) (by walk_at "ext") (by walk_at "sel") (by walk_at "amp")) fun s4 h4 => ?_
        try dsimp only
        exact W_nil h4
      | true =>
        rw [if_pos rfl]
        obtain ⟨dx, tx, c1, c2, g1, g2⟩ := a1
        have g1' := g1.mono le2
        have g2' := g2.mono le2
        clear H8 H7
        walk_at "R"
        refine W_lenL (by assumption) (St.at (by assumption) k9) (by rw [← hns.length, ho.2.2.2.len]; lia) fun t5 s10 H10 => ?_
        walk_at "R"
        refine W_iter_range (by walk_at "pull") R.hh (by rw [← hns.length, ho.2.2.2.len]; lia) ?_
        intro it s11 I11 H11
        have hnl : (hd.getD (List.replicate kids.length nm0)).length = kids.length := ho.2.2.2.len
        have hnok := ho.2.2.2.ok
        have hext : extB true (.tree k kids hd) base1 r1 = extL true kids (hd.getD (List.replicate kids.length nm0)) base1 r1 := by rw [extB, if_pos rfl]
        generalize hd.getD (List.replicate kids.length nm0) = ns at *
        have hp : ∀ q ∈ kids, ∀ base r, Len r (extB true q base r) (cl true q) := fun q hq => extB_len true n q (ho.2.2.1 q hq)
        have hcl : ∀ q ∈ kids, cl true q ≤ 3 ^ (n + 1) := fun q hq => cl_le true n q (ho.2.2.1 q hq)
        have h3n : 3 ^ (n + 1 + 1) = 3 * 3 ^ (n + 1) := by rw [Nat.pow_succ 3 (n + 1), Nat.mul_comm]
        have hbd : ∀ i, i ≤ kids.length → Len r1 (extL true (kids.take i) (ns.take i) base1 r1) (clL true (kids.take i)) ∧ clL true (kids.take i) ≤ i * 3 ^ (n + 1) := by
          intro i hi
          refine ⟨extL_len true _ _ base1 r1 (by rw [List.length_take, List.length_take, hnl]) fun q hq => hp q (List.mem_of_mem_take hq), ?_⟩
          have := clL_le true (3 ^ (n + 1)) (kids.take i) fun q hq => hcl q (List.mem_of_mem_take hq)
          rwa [List.length_take, Nat.min_eq_left hi] at this
        refine W_loopG I11 (fun j f' N' => ∃ us', All2 IsNm (extL true (kids.take j) (ns.take j) base1 r1).names us' ∧ N' = (L, HasVars [("names", .ref na), ("base", bv1), ("row", .ref xr), ("tag", tv), ("before", .int (bef : Nat) t1), ("count", .int (cnt : Nat) t2), ("recurse", .bool true), ("v", .ref x)]) :: (xr, IsInst 534 dr) :: (dr, RowD w l (extL true (kids.take j) (ns.take j) base1 r1)) :: (l, IsLst us') :: N) (by walk_at "arr") (Le.refl _) ⟨us1, by rw [List.take_zero, List.take_zero, extL_nil]; exact hus, by rw [List.take_zero, List.take_zero, extL_nil]⟩ ?_ ?_
        · rintro Q1 i f' N' s12 v hn hi hl ⟨us', k1, rfl⟩ ⟨tv', rfl⟩ H12
          have hi' : i < kids.length := by rw [← hns.length, hnl] at hi; exact hi
          obtain ⟨⟨b1, b2, b3⟩, b4⟩ := hbd i (by lia)
          have hm3 : i * 3 ^ (n + 1) + 3 ^ (n + 1) ≤ 3 * 3 ^ (n + 1) := by have := Nat.mul_le_mul_right (3 ^ (n + 1)) (show i + 1 ≤ 3 by lia); rw [Nat.succ_mul] at this; exact this
          obtain ⟨vv, hvv1, hvv2⟩ := a3.get' (List.getElem?_eq_getElem hi')
          obtain ⟨nv, hnv1, hnv2⟩ := hns.get' (List.getElem?_eq_getElem (show i < ns.length by lia))
          have hstep : extL true (kids.take (i + 1)) (ns.take (i + 1)) base1 r1 = ext true kids[i] base1 (ns[i]'(by lia)) (extL true (kids.take i) (ns.take i) base1 r1) := by
            rw [List.take_succ, List.take_succ, List.getElem?_eq_getElem hi', List.getElem?_eq_getElem (show i < ns.length by lia), extL_app _ _ _ _ _ _ _ (by rw [List.length_take, List.length_take, hnl])]
            exact extL_one _ _ _ _ _
          have g1'' := g1'.mono hl
          have g2'' := g2'.mono hl
          walk_at "R"
          refine W_itemL (St.at (by assumption) (a2.mono (le2.trans hl))) hvv1 (by lia) ?_
          walk_at "R"
          refine W_itemL (St.at (by assumption) (At.mono k9 hl)) hnv1 (by lia) ?_
          walk_at "R"
          refine ih n rfl (R.le (by lia)) (by walk_at "arr") (hvv2.mono (le2.trans hl)) (ho.2.2.1 _ (List.getElem_mem hi')) hb1 hnv2 (hnok _ (List.getElem_mem _)) (by lia) k1 (by lia) (by lia) fun f3 us3 s13 le3 hus3 H13 => ?_
          walk_at "R"
          rw [hstep]
          exact ⟨f3, _, hl.trans le3, ⟨us3, hus3, rfl⟩, St.arrv L (by assumption) (by walk_at "ext") (by walk_at "sel") (by walk_at "amp")⟩
        · rintro f' N' s12 hl ⟨us', k1, rfl⟩ H12
          have e1 : kids.take nus.length = kids := List.take_of_length_le (by rw [← hns.length, hnl]; exact Nat.le_refl _)
          have e2 : ns.take nus.length = ns := List.take_of_length_le (by rw [← hns.length]; exact Nat.le_refl _)
          rw [e1, e2] at k1 H12
          try dsimp only
          refine W_nil ?_
          try dsimp only
          refine W_nil ?_
          try dsimp only
          exact fin f' us' _ bef cnt t1 t2 _ (le2.trans hl) k1 (fun q => by rw [hr1 q, hext]) (fun q => by rw [hr2 q, hext]) (St.arrv L (by assumption) (by walk_at "ext") (by walk_at "sel") (by walk_at "amp"))
  conv in fBody _ => whnf
  obtain ⟨t3, t4, H3⟩ := (show St B f ((dr, RowD w l r) :: (L, HasVars [("row", .ref xr), ("recurse", .bool op), ("tag", tv), ("base", bv), ("v", v)]) :: (xr, IsInst 534 dr) :: (l, IsLst us) :: N) s1 by walk_at "arr").rowd
  clear H1
  have h9 := cl_le op n p ho
  walk_at "R"
  refine nm_ne ht ?_
  walk_at "R"
  cases hq : (tag != some (Str.ofString ""))
  · have q := nq3 hq
    rw [if_neg Bool.false_ne_true]
    refine W_nil ?_
    try dsimp only
    obtain ⟨t5, t6, H9⟩ : ∃ t5 t6, St B f ((L, HasVars [("base", bv), ("row", .ref xr), ("recurse", .bool op), ("tag", tv), ("v", v), ("before", .int (0 : Nat) t5), ("count", .int (r.count : Nat) t6)]) :: (dr, DictIs w.params [("names", .ref l), ("number", .int (r.number : Nat) t3), ("count", .int (r.count : Nat) t4)]) :: (xr, IsInst 534 dr) :: (l, IsLst us) :: N) _ := ⟨_, _, St.arrv L (by assumption) (by walk_at "ext") (by walk_at "sel") (by walk_at "amp")⟩
    exact mid base bv 0 r.count r us t5 t6 _ hb (by lia) hr hn1 hn2 (fun e => absurd q e) (fun _ => by rw [ext, tagStep, if_neg (fun e => e q)]) (St.sel (St.rowc r.names H9.p1) (by walk_at "sel"))
  · have q := nq4 hq
    walk_at "R"
    refine jb_ok X (R.le (by lia)) (by assumption) hb ht (by have := hot.len; lia) fun bv1 s5 hb1 H5 => ?_
    walk_at "R"
    refine count_ok X op n (R.le (by lia)) (by assumption) hv ho fun t7 s6 H6 => ?_
    refine W_local (by walk_at "kind") (by assumption) (by walk_at "mem") (by walk_at "mp") ?_
    refine W_setattr X (St.mem (by assumption) (by walk_at "mem")) (by walk_at "ck") (by walk_at "pull") (by walk_at "mem") (by walk_at "kvlen") ?_
    intro s7 H7
    refine W_nil ?_
    try dsimp only
    obtain ⟨t5, t6, t8, t9, H9⟩ : ∃ t5 t6 t8 t9, St B f ((L, HasVars [("base", bv1), ("row", .ref xr), ("recurse", .bool op), ("tag", tv), ("v", v), ("before", .int (r.number : Nat) t5), ("count", .int (r.count : Nat) t6)]) :: (dr, DictIs w.params [("names", .ref l), ("number", .int (0 : Nat) t8), ("count", .int (cl op p : Nat) t9)]) :: (xr, IsInst 534 dr) :: (l, IsLst us) :: N) _ := ⟨_, _, _, _, St.arrv L (by assumption) (by walk_at "ext") (by walk_at "sel") (by walk_at "amp")⟩
    exact mid (jb base tag) bv1 r.number r.count ⟨r.names, 0, cl op p⟩ us t5 t6 _ hb1 (by have := txt_jb base tag; have := hot.len; lia) hr hn1 (by dsimp only; lia) (fun _ => by rw [ext, tagStep, if_pos q]) (fun e => absurd e q) (St.sel (St.rowc r.names H9.p1) (by walk_at "sel"))
end
noncomputable def someOf (op : Bool) : List (Nm × Plan) → Bool
  | [] => false
  | x :: xs => someOf op xs || (x.1 != nm0) || Mine.hn op x.2
noncomputable def anyN (op : Bool) (xs : List (Nm × Plan)) : Bool := xs.foldl (fun b x => b || (x.1 != nm0) || Mine.hn op x.2) false
noncomputable def extAll (op : Bool) (xs : List (Nm × Plan)) (r : NR) : NR := xs.foldl (fun r x => ext op x.2 nm0 x.1 r) r
noncomputable def NR0 : NR := ⟨[], 0, 0⟩
noncomputable def sumCl (op : Bool) (xs : List (Nm × Plan)) : Nat := (xs.map fun x => cl op x.2).sum
theorem extAll_len (op : Bool) : ∀ (xs : List (Nm × Plan)) (r : NR), (∀ x ∈ xs, OkPlan 2 x.2) → (extAll op xs r).names.length = r.names.length + sumCl op xs ∧ (extAll op xs r).number = r.number + sumCl op xs
  | [], r, _ => ⟨rfl, rfl⟩
  | x :: xs, r, h => by
    obtain ⟨a1, a2, a3⟩ := ext_len op (h x (.head _)) nm0 x.1 r
    obtain ⟨b1, b2⟩ := extAll_len op xs (ext op x.2 nm0 x.1 r) fun y hy => h y (.tail _ hy)
    have e : extAll op (x :: xs) r = extAll op xs (ext op x.2 nm0 x.1 r) := rfl
    rw [e]
    simp only [sumCl, List.map_cons, List.sum_cons] at *
    lia
theorem sumCl_le (op : Bool) : ∀ (xs : List (Nm × Plan)), (∀ x ∈ xs, OkPlan 2 x.2) → sumCl op xs ≤ xs.length * 27
  | [], _ => by simp [sumCl]
  | x :: xs, h => by
    have h1 := cl_le op 2 x.2 (h x (.head _))
    have h2 := sumCl_le op xs fun y hy => h y (.tail _ hy)
    simp only [sumCl, List.map_cons, List.sum_cons, List.length_cons] at *
    lia
noncomputable def IsArg (prog : Program) (w : World) (f : Heap) (x : Nm × Plan) (v : Value) : Prop := ∃ t nv pv, v = .ref t ∧ At f t (IsTupO [nv, pv]) ∧ IsNm x.1 nv ∧ IsVal prog w f 2 x.2 pv
noncomputable def OkArgs (xs : List (Nm × Plan)) : Prop := xs.length ≤ 4 ∧ ∀ x ∈ xs, OkNm x.1 ∧ OkPlan 2 x.2
section
variable {prog : Program} {w : World} {P : Params} {B : Shared} {f : Heap} {N : Led} {s : Shared} {A : Around} {env : Env}
theorem IsArg.mono {f f' : Heap} {x : Nm × Plan} {v : Value} (h : IsArg prog w f x v) (hl : Le f f') : IsArg prog w f' x v :=
  let ⟨t, nv, pv, h1, h2, h3, h4⟩ := h; ⟨t, nv, pv, h1, h2.mono hl, h3, h4.mono hl⟩
theorem jnames_ok (X : Base (K0 P) B) (hA : Room A 9) (op : Bool) {xs : List (Nm × Plan)} {ar : Addr} {tus : List Value} (H : St B f N s) (har : At f ar (IsLst tus)) (hx : All2 (IsArg prog w f) xs tus) (ho : OkArgs xs) {Q : Value → Shared → Prop}
    (h0 : anyN op xs = false → ∀ s', St B f N s' → Q .none s')
    (h1 : anyN op xs = true → ∀ l us f' s', Le f f' → All2 IsNm (extAll op xs NR0).names us → At f' l (IsLst us) → St B f' N s' → Q (.ref l) s') : Wp prog w A (call (.ref 601) [.ref ar, .bool op]) Q s := by
  refine W_enter [("recurse", .bool op), ("args", .ref ar)] hA (fn_joined_names X) X.lim H (body := fBody (st 89)) rfl (.of_eq rfl) (by kernel_rfl) ?_
  intro L s1 H1 R
  conv in fBody _ => whnf
  walk_at "R"
  refine W_iter_list (by assumption) R.hh (har.imp fun _ => IsLst.w) ?_
  intro it s2 I2 H2
  refine W_loopG I2 (fun j f' N' => f = f' ∧ N' = (L, HasVars [("some", .bool (anyN op (xs.take j))), ("recurse", .bool op), ("args", .ref ar)]) :: N) H2 (Le.refl _) ⟨rfl, rfl⟩ ?_ ?_
  · rintro Q1 i f' N' s3 v hn hi hle ⟨rfl, rfl⟩ hv H3
    obtain ⟨x, hx1, t, nv, pv, rfl, a1, a2, a3⟩ := hx.get (i := i) (by simpa using hv)
    have hox := ho.2 x (List.mem_of_getElem? hx1)
    have hstep : anyN op (xs.take (i + 1)) = (anyN op (xs.take i) || (x.1 != nm0) || Mine.hn op x.2) := by
      rw [List.take_succ, hx1, anyN, List.foldl_append]; rfl
    have fin : ∀ b s4, b = anyN op (xs.take (i + 1)) → St B f ((it, ItList ar (i + 1)) :: (L, HasVars [("some", .bool b), ("recurse", .bool op), ("args", .ref ar)]) :: N) s4 → ∃ f'' N'', Le f f'' ∧ (f = f'' ∧ N'' = (L, HasVars [("some", .bool (anyN op (xs.take (i + 1)))), ("recurse", .bool op), ("args", .ref ar)]) :: N) ∧ St B f'' ((it, ItList ar (i + 1)) :: N'') s4 := by
      rintro b s4 rfl H4
      exact ⟨f, _, Le.refl _, ⟨rfl, rfl⟩, H4⟩
    refine W_unpackT (by assumption) R.hh (St.at (by assumption) a1) rfl rfl fun s4 H4 => ?_
    refine Ao_cons ?_
    walk_at "R"
    refine Ao_cons ?_
    walk_at "R"
    refine Ao_nil ?_
    walk_at "R"
    generalize hb : anyN op (xs.take i) = b0 at *
    cases b0 with
    | true =>
      walk_at "R"
      exact fin true _ (by simp [hstep]) (St.arrv L (by assumption) (by walk_at "ext") (by walk_at "sel") (by walk_at "amp"))
    | false =>
      walk_at "R"
      refine nm_ne a2 ?_
      walk_at "R"
      cases hq : (x.1 != some (Str.ofString ""))
      · walk_at "R"
        refine hasn_ok X op 2 (R.le (by lia)) (by assumption) a3 hox.2 fun s5 H5 => ?_
        walk_at "R"
        exact fin (Mine.hn op x.2) _ (by simp only [hstep, show (x.1 != nm0) = false from hq, Bool.false_or]) (St.arrv L (by assumption) (by walk_at "ext") (by walk_at "sel") (by walk_at "amp"))
      · walk_at "R"
        exact fin true _ (by simp only [hstep, show (x.1 != nm0) = true from hq, Bool.false_or, Bool.true_or]) (St.arrv L (by assumption) (by walk_at "ext") (by walk_at "sel") (by walk_at "amp"))
  · rintro f' N' s3 hle ⟨rfl, rfl⟩ H3
    rw [List.take_of_length_le (by rw [hx.length]; simp)] at H3
    walk_at "R"
    generalize hb : anyN op xs = b1 at *
    cases b1 with
    | false =>
      walk_at "R"
      exact h0 rfl _ (by walk_at "arr")
    | true =>
      walk_at "R"
      refine mk_NameRow X (R.le (by lia)) (by assumption) fun xr dr l t1 t2 s4 H4 => ?_
      walk_at "R"
      refine W_iter_list (by assumption) R.hh (har.imp fun _ => IsLst.w) ?_
      intro it s5 I5 H5
      have H6 := St.rowc (a := 0) (b := 0) [] (show St B f ((dr, DictIs w.params [("names", .ref l), ("number", .int (0 : Nat) t1), ("count", .int (0 : Nat) t2)]) :: (it, ItList ar 0) :: (L, HasVars [("row", .ref xr), ("recurse", .bool op), ("args", .ref ar)]) :: (xr, IsInst 534 dr) :: (l, IsLst []) :: N) s5 from St.arrv L (by assumption) (by walk_at "ext") (by walk_at "sel") (by walk_at "amp"))
      refine W_loopG I5 (fun j f' N' => ∃ us', All2 IsNm (extAll op (xs.take j) NR0).names us' ∧ N' = (L, HasVars [("row", .ref xr), ("recurse", .bool op), ("args", .ref ar)]) :: (xr, IsInst 534 dr) :: (dr, RowD w l (extAll op (xs.take j) NR0)) :: (l, IsLst us') :: N) (by walk_at "arr") (Le.refl _) ⟨[], .nil, rfl⟩ ?_ ?_
      · rintro Q1 i f' N' s6 v hn hi hle ⟨us', k1, rfl⟩ hv H7
        obtain ⟨x, hx1, t, nv, pv, rfl, a1, a2, a3⟩ := hx.get (i := i) (by simpa using hv)
        have hox := ho.2 x (List.mem_of_getElem? hx1)
        have hstep : extAll op (xs.take (i + 1)) NR0 = ext op x.2 nm0 x.1 (extAll op (xs.take i) NR0) := by
          rw [List.take_succ, hx1, extAll, List.foldl_append]; rfl
        have hi4 : i < 4 := by have := ho.1; have := hx.length; simp at hi; lia
        have hl1 := extAll_len op (xs.take i) NR0 fun y hy => (ho.2 y (List.mem_of_mem_take hy)).2
        have hl2 := sumCl_le op (xs.take i) fun y hy => (ho.2 y (List.mem_of_mem_take hy)).2
        rw [List.length_take] at hl2
        have hl3 : NR0.names.length = 0 ∧ NR0.number = 0 := ⟨rfl, rfl⟩
        refine W_unpackT (by assumption) R.hh (St.at (by assumption) (a1.mono hle)) rfl rfl fun s4 H4 => ?_
        refine Ao_cons ?_
        walk_at "R"
        refine Ao_cons ?_
        walk_at "R"
        refine Ao_nil ?_
        walk_at "R"
        refine ext_ok X op 2 (R.le (by lia)) (by walk_at "arr") (a3.mono hle) hox.2 (base := nm0) ⟨_, rfl⟩ a2 hox.1 (by rw [show (txt nm0).length = 0 by decide +kernel]; lia) k1 (by lia) (by lia) fun f3 us3 s7 le3 hus3 H8 => ?_
        walk_at "R"
        rw [hstep]
        exact ⟨f3, _, hle.trans le3, ⟨us3, hus3, rfl⟩, St.arrv L (by assumption) (by walk_at "ext") (by walk_at "sel") (by walk_at "amp")⟩
      · rintro f' N' s6 hle ⟨us', k1, rfl⟩ H7
        rw [List.take_of_length_le (by rw [hx.length]; simp)] at k1 H7
        obtain ⟨t3, t4, H8⟩ := (show St B f' ((dr, RowD w l (extAll op xs NR0)) :: (L, HasVars [("row", .ref xr)]) :: (xr, IsInst 534 dr) :: (l, IsLst us') :: N) s6 from St.arrv L (by assumption) (by walk_at "ext") (by walk_at "sel") (by walk_at "amp")).rowd
        walk_at "R"
        obtain ⟨f4, le4, H9, k9⟩ := (show St B f' ((l, IsLst us') :: N) _ by walk_at "arr").freeze
        exact h1 rfl l us' f4 _ (hle.trans le4) k1 k9 H9
end
noncomputable def pt (op : Bool) (xs : List (Nm × Plan)) : List Plan := partsL op (xs.map (·.2))
noncomputable def kdOf (ps : List Plan) : Kd := ofRank (top (ps.map Plan.kd))
noncomputable def total (ps : List Plan) : Nat := (ps.map Plan.size).sum
noncomputable def rits (kd : Kd) (ps : List Plan) : List It := (ps.map fun p => p.its.map (·.raise p.kd kd)).flatten
noncomputable def resNames (op un : Bool) (xs : List (Nm × Plan)) : Option (List Nm) := if (un && decide (0 < total (pt op xs))) = true then (if anyN op xs = true then some (extAll op xs NR0).names else none) else none
theorem top_ge : ∀ (ks : List Kd) (k : Kd), k ∈ ks → rank k ≤ top ks := by
  have key : ∀ (ks : List Kd) (m : Nat), m ≤ ks.foldl (fun m k => max m (rank k)) m ∧ ∀ k ∈ ks, rank k ≤ ks.foldl (fun m k => max m (rank k)) m := by
    intro ks
    induction ks with
    | nil => exact fun m => ⟨Nat.le_refl _, fun _ h => nomatch h⟩
    | cons a r ih =>
      intro m
      obtain ⟨h1, h2⟩ := ih (max m (rank a))
      rw [List.foldl_cons]
      refine ⟨by lia, fun k hk => ?_⟩
      rcases List.mem_cons.mp hk with rfl | hk
      · lia
      · exact h2 k hk
  exact fun ks k hk => (key ks 0).2 k hk
theorem okup_of {ps : List Plan} (h : ∀ p ∈ ps, ∃ n, OkPlan n p ∧ p.kd ≠ .nu) : ∀ p ∈ ps, OkUp p (kdOf ps) := by
  intro p hp
  obtain ⟨n, h1, h2⟩ := h p hp
  have hr : rank p.kd ≤ top (ps.map Plan.kd) := top_ge _ _ (List.mem_map_of_mem hp)
  have ht := top_lt (ps.map Plan.kd)
  have h3 := top_ne3 (ps.map Plan.kd)
  unfold kdOf
  generalize top (ps.map Plan.kd) = m at *
  have hpos : 1 ≤ rank p.kd := by cases hk : p.kd <;> first | exact absurd hk h2 | decide
  have hm : m = 1 ∨ m = 2 ∨ m = 4 ∨ m = 5 ∨ m = 6 := by lia
  have row : m ≤ 4 → (ofRank m).atomic = true → rank (ofRank m) = m → OkUp p (ofRank m) := by
    intro hm4 ha hrk
    refine .inr (.inr ?_)
    cases p with
    | nothing => exact absurd rfl h2
    | name => have : (5 : Nat) ≤ m := hr; lia
    | row k its hd => rw [OkPlan_row] at h1; exact ⟨k, its, hd, rfl, h1.1, ha, by rw [hrk]; exact hr⟩
    | tree k kids hd =>
      cases n with
      | zero => exact h1.elim
      | succ n =>
        have hk : k.treeish = true := h1.1
        have : 5 ≤ rank k := by cases k <;> first | (cases hk; done) | decide
        have hr' : rank k ≤ m := hr
        lia
  rcases hm with rfl | rfl | rfl | rfl | rfl
  · exact row (by decide) rfl rfl
  · exact row (by decide) rfl rfl
  · exact row (by decide) rfl rfl
  · exact .inl rfl
  · exact .inr (.inl rfl)
noncomputable def IsRes (prog : Program) (w : World) (f : Heap) (v : Value) (kd : Kd) (len : Nat) (its : List It) (hd : Option (List Nm)) : Prop := ∃ x li us av, v = .ref x ∧ IsVec w f x kd (.ref li) av ∧ At f li (IsLst us) ∧ us.length = len ∧ (kd.atomic = true → All2 IsIt its us) ∧ IsAttrs prog w f hd av
theorem size_le {n : Nat} {p : Plan} (h : OkPlan n p) : p.size ≤ 3 := by
  cases p with
  | nothing => exact Nat.zero_le _
  | name => show 1 ≤ 3; decide
  | row k its hd => rw [OkPlan_row] at h; exact h.2.1
  | tree k kids hd =>
    cases n with
    | zero => exact h.elim
    | succ n => exact h.2.1
theorem total_le : ∀ (ps : List Plan), (∀ p ∈ ps, ∃ n, OkPlan n p ∧ p.kd ≠ .nu) → total ps ≤ ps.length * 3
  | [], _ => by simp [total]
  | p :: r, h => by
    obtain ⟨n, h1, _⟩ := h p (.head _)
    have a := size_le h1
    have b := total_le r fun q hq => h q (.tail _ hq)
    simp only [total, List.map_cons, List.sum_cons, List.length_cons] at *
    lia
section
variable {prog : Program} {w : World} {P : Params} {B : Shared} {f : Heap} {N : Led} {s : Shared} {A : Around} {env : Env}
theorem combined_ok (X : Base (K0 P) B) (hA : Room A 12) (op un : Bool) {xs : List (Nm × Plan)} {ar : Addr} {tus : List Value} (H : St B f N s) (har : At f ar (IsLst tus)) (hx : All2 (IsArg prog w f) xs tus) (ho : OkArgs xs) {Q : Value → Shared → Prop}
    (h0 : pt op xs = [] → ∀ v f' s', Le f f' → IsVal prog w f' 0 .nothing v → St B f' N s' → Q v s')
    (h1 : pt op xs ≠ [] → ∀ v f' s', Le f f' → IsRes prog w f' v (kdOf (pt op xs)) (total (pt op xs)) (rits (kdOf (pt op xs)) (pt op xs)) (resNames op un xs) → St B f' N s' → Q v s') : Wp prog w A (call (.ref 620) [.ref ar, .bool op, .bool un]) Q s := by
  refine W_enter [("use_names", .bool un), ("recurse", .bool op), ("args", .ref ar)] hA (fn_combined X) X.lim H (body := fBody (st 92)) rfl (.of_eq rfl) (by kernel_rfl) ?_
  intro L s1 H1 R
  conv in fBody _ => whnf
  walk_at "R"
  refine W_iter_list (by assumption) R.hh (har.imp fun _ => IsLst.w) ?_
  intro it s2 I2 H2
  rename_i pl _ _ _ _ t0 _ _ m _ _ _ _
  have H3 : St B f ((m, Met 0) :: (pl, IsLst []) :: (it, ItList ar 0) :: (L, HasVars [("met", .ref m), ("parts", .ref pl), ("use_names", .bool un), ("recurse", .bool op), ("args", .ref ar)]) :: N) s2 :=
    (show St B f ((m, IsLst [.int 0 t0]) :: (pl, IsLst []) :: (it, ItList ar 0) :: (L, HasVars [("met", .ref m), ("parts", .ref pl), ("use_names", .bool un), ("recurse", .bool op), ("args", .ref ar)]) :: N) s2 by walk_at "arr").imp fun o ho => ⟨_, ho.w⟩
  refine W_loopG I2 (fun j f' N' => ∃ us' c', All2 (IsPart prog w f') (pt op (xs.take j)) us' ∧ us'.length ≤ c' ∧ c' ≤ j * 13 ∧ N' = (pl, IsLst us') :: (m, Met c') :: (L, HasVars [("met", .ref m), ("parts", .ref pl), ("use_names", .bool un), ("recurse", .bool op), ("args", .ref ar)]) :: N) (by walk_at "arr") (Le.refl _) ⟨[], 0, .nil, Nat.le_refl _, Nat.zero_le _, rfl⟩ ?_ ?_
  · rintro Q1 i f' N' s3 v hn hi hle ⟨us', c', g1, g2, g3, rfl⟩ hv H4
    obtain ⟨x, hx1, t, nv, pv, rfl, a1, a2, a3⟩ := hx.get (i := i) (by simpa using hv)
    have hox := ho.2 x (List.mem_of_getElem? hx1)
    have hi4 : i < 4 := by have := ho.1; have := hx.length; simp at hi; lia
    refine W_unpackT (by assumption) R.hh (St.at (by assumption) (a1.mono hle)) rfl rfl fun s4 H5 => ?_
    refine Ao_cons ?_
    walk_at "R"
    refine Ao_cons ?_
    walk_at "R"
    refine Ao_nil ?_
    walk_at "R"
    refine gather_ok X op 2 (dep := 0) (R.le (by lia)) (by walk_at "arr") (a3.mono hle) hox.2 (by show c' + 13 ≤ 10000; lia) (by lia) g2 g1 fun f3 us3 c3 s5 le3 k1 k2 k3 H6 => ?_
    walk_at "R"
    refine ⟨f3, _, hle.trans le3, ⟨us3, c3, ?_, k2, ?_, rfl⟩, St.arrv L (by assumption) (by walk_at "ext") (by walk_at "sel") (by walk_at "amp")⟩
    · rw [pt, List.take_succ, hx1, List.map_append, partsL_app]
      rw [show ((some x).toList.map (·.2)) = [x.2] from rfl, partsL_one]
      exact k1
    · have : gsz 2 = 13 := rfl
      lia
  rintro f1 N1 s3 hle1 ⟨us, c1, g1, g2, g3, rfl⟩ H4
  rw [List.take_of_length_le (by rw [hx.length]; simp)] at g1
  have hus : us.length ≤ 52 := by have := ho.1; have := hx.length; simp at g3; lia
  obtain ⟨f2, le2, H5, k5⟩ := (show St B f1 ((pl, IsLst us) :: (L, HasVars [("parts", .ref pl), ("use_names", .bool un), ("recurse", .bool op), ("args", .ref ar)]) :: N) s3 from St.arrv L H4 (by walk_at "ext") (by walk_at "sel") (by walk_at "amp")).freeze
  replace k5 : At f2 pl (IsLst us) := k5
  have g1' : All2 (IsPart prog w f2) (pt op xs) us := g1.imp fun _ _ _ h => h.mono le2
  clear g1 H4 H3 H2 H1
  have hle2 := hle1.trans le2
  walk_at "R"
  refine W_lenL (by assumption) (St.at (by assumption) k5) (by lia) fun t1 s4 H6 => ?_
  walk_at "R"
  generalize hps : pt op xs = ps at *
  cases g1' with
  | nil =>
    rw [if_pos (by simp)]
    walk_at "R"
    refine mk_Null X (R.le (by lia)) (by assumption) fun x dx t s5 H7 => ?_
    obtain ⟨f3, a1, H8, o1⟩ := H7.freeze
    obtain ⟨f4, a2, H9, o2⟩ := H8.freeze
    exact h0 rfl _ f4 _ (hle2.trans (a1.trans a2)) (IsVal_nothing ▸ ⟨x, dx, t, rfl, At.mono o1 a2, o2⟩) (by walk_at "arr")
  | @cons p0 v0 ps' us' q0 q1 =>
    have g1 : All2 (IsPart prog w f2) (p0 :: ps') (v0 :: us') := .cons q0 q1
    have hne : p0 :: ps' ≠ [] := by simp
    generalize p0 :: ps' = ps at *
    rw [if_neg (by simp; lia)]
    generalize hvs : v0 :: us' = vs at *
    clear q0 q1
    have hall : ∀ p ∈ ps, ∃ n, OkPlan n p ∧ p.kd ≠ .nu := by
      intro p hp
      obtain ⟨i, hi, rfl⟩ := List.getElem_of_mem hp
      obtain ⟨v, _, n, _, h2, h3⟩ := g1.get' (List.getElem?_eq_getElem hi)
      exact ⟨n, h2, h3⟩
    have hup := okup_of hall
    have htot := total_le ps hall
    have hlen := g1.length
    walk_at "R"
    refine W_ListComp (cl := []) (by kernel_rfl) (by kernel_rfl) ?_
    walk_at "R"
    refine W_iter_list (by assumption) R.hh (k5.imp fun _ => IsLst.w) ?_
    intro it s5 I5 H7
    refine W_compG (by kernel_rfl) I5 (fun j f' N' vs' => f2 = f' ∧ All2 IsKs ((ps.take j).map Plan.kd) vs' ∧ N' = (L, HasVars [("parts", .ref pl), ("use_names", .bool un), ("recurse", .bool op), ("args", .ref ar)]) :: N) (by walk_at "arr") (Le.refl _) ⟨rfl, .nil, rfl⟩ ?_ ?_
    · rintro Q1 C acc j f' N' vs' l s6 v hn hj hl ⟨rfl, k1, rfl⟩ hv H8
      obtain ⟨p, hp1, n, b1, b2, b3⟩ := g1.get (i := j) (by simpa using hv)
      walk_at "R"
      refine W_kind X (by assumption) b1.kind fun t s7 H9 => ?_
      refine hn _ _ ?_
      refine ⟨f2, _, _, Le.refl _, ⟨rfl, ?_, rfl⟩, ?_, by walk_at "arr"⟩
      · rw [List.take_succ, hp1, List.map_append]
        exact k1.snoc ⟨_, rfl⟩
      · have := k1.length; rw [List.length_map, List.length_take] at this; lia
    rintro acc f' N' vs' s6 hl ⟨rfl, k1, rfl⟩ H8
    rw [List.take_of_length_le (by rw [g1.length]; simp)] at k1
    obtain ⟨f3, le3, H9, k9⟩ := H8.freeze
    have g3 : All2 (IsPart prog w f3) ps vs := g1.imp fun _ _ _ h => h.mono le3
    have k5' := k5.mono le3
    walk_at "R"
    refine ckind_ok X (R.le (by lia)) (by assumption) k9 k1 fun t7 s7 H10 => ?_
    replace k5' : At f3 pl (IsLst vs) := k5'
    have har3 := har.mono (hle2.trans le3)
    have hx3 : All2 (IsArg prog w f3) xs tus := hx.imp fun _ _ _ h => h.mono (hle2.trans le3)
    have hle3 := hle2.trans le3
    clear H9 H8 H7 k1 I5 g1 k5
    rename_i Hx
    clear Hx
    generalize hkd : (ofRank (top (ps.map Plan.kd))) = kd at *
    have hkd' : kdOf ps = kd := hkd
    rw [hkd'] at hup h1
    walk_at "R"
    rename_i tz _ _ _ _
    refine W_iter_list (by assumption) R.hh (k5'.imp fun _ => IsLst.w) ?_
    intro it s8 I8 H11
    refine W_loopG I8 (fun j f' N' => f3 = f' ∧ ∃ t, N' = (L, HasVars [("count", .int (total (ps.take j) : Nat) t), ("kind", .str kd.s t7), ("parts", .ref pl), ("use_names", .bool un), ("recurse", .bool op), ("args", .ref ar)]) :: N) (St.arrv L (by assumption) (by walk_at "ext") (by walk_at "sel") (by walk_at "amp")) (Le.refl _) ⟨rfl, tz, rfl⟩ ?_ ?_
    · rintro Q1 i f' N' s9 v hn hi hl ⟨rfl, t, rfl⟩ hv H12
      obtain ⟨p, hp1, n, b1, b2, b3⟩ := g3.get (i := i) (by simpa using hv)
      have hstep : total (ps.take (i + 1)) = total (ps.take i) + p.size := by rw [List.take_succ, hp1]; simp [total]
      have fin : ∀ t' s10, St B f3 ((L, HasVars [("count", .int ((total (ps.take i) : Nat) + (p.size : Nat) : Int) t'), ("kind", .str kd.s t7), ("parts", .ref pl), ("use_names", .bool un), ("recurse", .bool op), ("args", .ref ar)]) :: (it, ItList pl (i + 1)) :: N) s10 → ∃ f'' N'', Le f3 f'' ∧ (f3 = f'' ∧ ∃ t, N'' = (L, HasVars [("count", .int (total (ps.take (i + 1)) : Nat) t), ("kind", .str kd.s t7), ("parts", .ref pl), ("use_names", .bool un), ("recurse", .bool op), ("args", .ref ar)]) :: N) ∧ St B f'' ((it, ItList pl (i + 1)) :: N'') s10 := by
        intro t' s10 H13
        refine ⟨f3, _, Le.refl _, ⟨rfl, t', rfl⟩, ?_⟩
        rw [hstep]
        exact H13.p1
      have vec : ∀ x k li vs' av s10 (Q' : Value → Shared → Prop), v = .ref x → IsVec w f3 x k (.ref li) av → At f3 li (IsLst vs') → vs'.length = p.size → p.size ≤ 3 → St B f3 ((L, HasVars [("part", v), ("count", .int (total (ps.take i) : Nat) t), ("kind", .str kd.s t7), ("parts", .ref pl), ("use_names", .bool un), ("recurse", .bool op), ("args", .ref ar)]) :: (it, ItList pl (i + 1)) :: N) s10 →
          (∀ t' s11, St B f3 ((L, HasVars [("part", v), ("count", .int (total (ps.take i) : Nat) t), ("kind", .str kd.s t7), ("parts", .ref pl), ("use_names", .bool un), ("recurse", .bool op), ("args", .ref ar)]) :: (it, ItList pl (i + 1)) :: N) s11 → Q' (.int (p.size : Nat) t') s11) → ∀ p1 p2 p3 p4, Wp prog w (A.deeper (callEnv F620 L 620)) (eval (.Call (.Name (Str.ofString "len") p1) [.Attribute (.Name (Str.ofString "part") p2) (Str.ofString "items") p3] [] p4) (callEnv F620 L 620)) Q' s10 := by
        rintro x k li vs' av s10 Q' rfl c1 c2 c3 c4 H13 hQ p1 p2 p3 p4
        walk_at "R"
        refine W_items X (by assumption) c1 rfl fun s11 H14 => ?_
        walk_at "R"
        refine W_lenL (by assumption) (St.at (by assumption) c2) (by lia) fun t' s12 H15 => ?_
        rw [c3]
        exact hQ _ _ H15
      walk_at "R"
      refine W_IfExp ?_
      walk_at "R"
      refine isvec_ok X (R.le (by lia)) (by assumption) b1 fun s10 H13 => ?_
      cases p with
      | nothing => exact absurd rfl b3
      | name =>
        rw [show Plan.name.isVec = false from rfl]
        walk_at "R"
        exact fin _ _ (St.arrv L (by assumption) (by walk_at "ext") (by walk_at "sel") (by walk_at "amp"))
      | row k its hd =>
        rw [show (Plan.row k its hd).isVec = true from rfl]
        rw [IsVal_row] at b1
        obtain ⟨x, iv, av, rfl, a1, ⟨li, vs', rfl, a2, a3⟩, a4⟩ := b1
        refine W_truth ?_
        rw [if_pos rfl]
        refine vec x k li vs' av _ _ rfl a1 a2 a3.length.symm (size_le b2) (by walk_at "arr") (fun t' s11 H14 => ?_) _ _ _ _
        walk_at "R"
        exact fin _ _ (St.arrv L (by assumption) (by walk_at "ext") (by walk_at "sel") (by walk_at "amp"))
      | tree k kids hd =>
        rw [show (Plan.tree k kids hd).isVec = true from rfl]
        cases n with
        | zero => exact b1.elim
        | succ n =>
        obtain ⟨x, iv, av, rfl, a1, ⟨li, vs', rfl, a2, a3⟩, a4⟩ := b1
        refine W_truth ?_
        rw [if_pos rfl]
        refine vec x k li vs' av _ _ rfl a1 a2 a3.length.symm (size_le b2) (by walk_at "arr") (fun t' s11 H14 => ?_) _ _ _ _
        walk_at "R"
        exact fin _ _ (St.arrv L (by assumption) (by walk_at "ext") (by walk_at "sel") (by walk_at "amp"))
    rintro f' N' s9 hl ⟨rfl, t, rfl⟩ H12
    rw [List.take_of_length_le (by rw [g3.length]; simp)] at H12
    walk_at "R"
    refine room_ok X (R.le (by lia)) (by lia) (by assumption) fun t9 s10 H13 => ?_
    walk_at "R"
    refine W_iter_list (by assumption) R.hh (k5'.imp fun _ => IsLst.w) ?_
    intro it s11 I11 H14
    rename_i ia _ _ _ _
    refine W_loopG I11 (fun j f' N' => ∃ us', us'.length = total (ps.take j) ∧ (kd.atomic = true → All2 IsIt (rits kd (ps.take j)) us') ∧ N' = (ia, IsLst us') :: (L, HasVars [("items", .ref ia), ("count", .int (total ps : Nat) t), ("kind", .str kd.s t7), ("use_names", .bool un), ("recurse", .bool op), ("args", .ref ar)]) :: N) (St.arrv L (by assumption) (by walk_at "ext") (by walk_at "sel") (by walk_at "amp")) (Le.refl _) ⟨[], rfl, fun _ => .nil, rfl⟩ ?_ ?_
    · rintro Q1 i f' N' s12 v hn hi hl ⟨us', e1, e2, rfl⟩ hv H15
      obtain ⟨p, hp1, n, b1, b2, b3⟩ := g3.get (i := i) (by simpa using hv)
      have hstep : total (ps.take (i + 1)) = total (ps.take i) + p.size := by rw [List.take_succ, hp1]; simp [total]
      have hstep2 : rits kd (ps.take (i + 1)) = rits kd (ps.take i) ++ p.its.map (·.raise p.kd kd) := by rw [List.take_succ, hp1]; simp [rits]
      have htk : total (ps.take i) ≤ ps.length * 3 := by
        have := total_le (ps.take i) fun q hq => hall q (List.mem_of_mem_take hq)
        rw [List.length_take] at this
        lia
      have hsz := size_le b2
      walk_at "R"
      refine partitems_ok X (R.le (by lia)) (by assumption) (b1.mono hl) b2 b3 (hup p (List.mem_of_getElem? hp1)) fun b us2 f4 s13 le4 c1 c2 c3 H16 => ?_
      walk_at "R"
      refine W_extend (by walk_at "pull") (St.at (by assumption) c1) (by lia) fun s14 H17 => ?_
      walk_at "R"
      refine ⟨f4, _, hl.trans le4, ⟨us' ++ us2, by rw [List.length_append, e1, c2, hstep], fun e => ?_, rfl⟩, St.arrv L (by assumption) (by walk_at "ext") (by walk_at "sel") (by walk_at "amp")⟩
      rw [hstep2]
      exact (e2 e).app (c3 e)
    rintro f4 N' s12 hl4 ⟨us', e1, e2, rfl⟩ H15
    rw [List.take_of_length_le (by rw [g3.length]; simp)] at e1 e2
    walk_at "R"
    refine mk_Vector X (R.le (by lia)) (by assumption) fun x dx s13 H16 => ?_
    walk_at "R"
    have fin : ∀ f5 av hd s14, Le f4 f5 → IsAttrs prog w f5 hd av → resNames op un xs = hd → St B f5 ((x, IsInst 321 dx) :: (dx, DictIs w.params [("kind", .str kd.s t7), ("items", .ref ia), ("attrs", av), ("shared", .bool false), ("loose", .bool false)]) :: (ia, IsLst us') :: N) s14 → Q (.ref x) s14 := by
      intro f5 av hd s14 hl5 hav hres H17
      obtain ⟨f6, le6, H18, k1, k2, k3⟩ := H17.frz3
      refine h1 hne _ f6 _ (hle3.trans (hl4.trans (hl5.trans le6))) ?_ H18
      rw [hres]
      exact ⟨x, ia, us', av, rfl, ⟨dx, _, _, _, k1, k2⟩, k3, e1, e2, hav.mono le6⟩
    have hres0 : resNames op un xs = if (un && decide (0 < total ps)) = true then (if anyN op xs = true then some (extAll op xs NR0).names else none) else none := by rw [resNames, hps]
    cases un with
    | false =>
      walk_at "R"
      exact fin f4 .none none _ (Le.refl _) rfl (by rw [hres0]; rfl) (by walk_at "arr")
    | true =>
      walk_at "R"
      by_cases hc : 0 < total ps
      · rw [if_pos (by simp; lia)]
        walk_at "R"
        refine jnames_ok X (R.le (by lia)) op (by assumption) (har3.mono hl4) (hx3.imp fun _ _ _ h => h.mono hl4) ho ?_ ?_
        · intro ha s14 H17
          walk_at "R"
          refine named_ok X (R.le (by lia)) (hd := none) (by walk_at "arr") rfl (fun _ e => nomatch e) fun f5 av s15 le5 hav H18 => ?_
          walk_at "R"
          exact fin f5 av none _ le5 hav (by rw [hres0, Bool.true_and, if_pos (decide_eq_true hc), if_neg (by rw [ha]; exact Bool.false_ne_true)]) (by walk_at "arr")
        · intro ha l ns f5 s14 le5 hns hl5 H17
          walk_at "R"
          have hlen := extAll_len op xs NR0 fun y hy => (ho.2 y hy).2
          have hlen2 := sumCl_le op xs fun y hy => (ho.2 y hy).2
          have hlen3 : NR0.names.length = 0 := rfl
          have ho1 := ho.1
          refine named_ok X (R.le (by lia)) (hd := some (extAll op xs NR0).names) (by walk_at "arr") ⟨l, ns, rfl, hl5, hns⟩ (fun hs e => by cases e; lia) fun f6 av s15 le6 hav H18 => ?_
          walk_at "R"
          exact fin f6 av _ _ (le5.trans le6) hav (by rw [hres0, Bool.true_and, if_pos (decide_eq_true hc), if_pos ha]) (by walk_at "arr")
      · rw [if_neg (by simp; lia)]
        walk_at "R"
        exact fin f4 .none none _ (Le.refl _) rfl (by rw [hres0, Bool.true_and, if_neg (by simpa using hc)]) (by walk_at "arr")
end
noncomputable def Kd.isLP : Kd → Bool
  | .ls => true
  | .pl => true
  | _ => false
theorem kd_lp (k : Kd) : (![Str.ofString "list", Str.ofString "pairlist"].any (· == k.s)) = !k.isLP := by cases k <;> decide +kernel
section
variable {prog : Program} {w : World} {P : Params} {B : Shared} {f : Heap} {N : Led} {s : Shared} {A : Around} {env : Env}
theorem W_ninT {a : Addr} {vs : List Value} {ys : List Str} {x : Str} {u : Tok} {Q : Value → Shared → Prop} (ha : At s.heap a (IsTupO vs)) (hi : StrsAre vs ys) (h : Q (.bool (!ys.any (· == x))) s) : Wp prog w A (compareOp .NotIn (.str x u) (.ref a)) Q s :=
  ⟨PyProof.Rows.notin_tuple_strs ha.tup hi h⟩
theorem unl_same (X : Base (K0 P) B) (hA : Room A 13) {k : Kd} {v : Value} {op un : Bool} (H : St B f N s) (hv : HasKind w f v k) (hk : k.isLP = false) {Q : Value → Shared → Prop} (h : ∀ s', St B f N s' → Q v s') : Wp prog w A (call (.ref 625) [v, .bool op, .bool un]) Q s := by
  refine W_enterC [("v", v), ("recurse", .bool op), ("use_names", .bool un)] [("use_names", .bool un), ("recurse", .bool op)] [("v", v)] (fun L => [(L + 2, IsCellN), (L + 1, IsCellO v)]) hA (fn_unlisted X) X.lim H (body := fBody (st 93)) rfl rfl (by kernel_rfl) (fun L => by kernel_rfl) (by kernel_rfl) (by kernel_rfl) (fun L => by kernel_rfl) ["names", "v"] (fun L => by kernel_rfl) (by decide +kernel) ?_
  intro L s1 H1 R
  have kc1 : (callEnvC F625 L 625).cells.lookup (Str.ofString "v") = some (L + 1) := by kernel_rfl
  have kc2 : (callEnvC F625 L 625).cells.lookup (Str.ofString "names") = some (L + 2) := by kernel_rfl
  replace H1 : St B f ((L, HasVars [("use_names", .bool un), ("recurse", .bool op)]) :: (L + 2, IsCellN) :: (L + 1, IsCellO v) :: N) s1 := H1
  conv in fBody _ => whnf
  walk_at "R"
  refine W_kind X (by assumption) hv fun t4 s6 H6 => ?_
  walk_at "R"
  refine W_ninT (St.mem (by assumption) (by walk_at "mem")) (by walk_at "strs") ?_
  rw [kd_lp, hk]
  walk_at "R"
  exact h _ (by walk_at "arr")
theorem unl_ok (X : Base (K0 P) B) (hA : Room A 13) {op un : Bool} {xs : List (Nm × Plan)} {x li : Addr} {k : Kd} {vs : List Value} {av : Value} (H : St B f N s) (hv : IsVec w f x k (.ref li) av) (hli : At f li (IsLst vs)) (hvs : All2 (fun y v => IsVal prog w f 2 y.2 v) xs vs) (ha : IsAttrs prog w f (some (xs.map (·.1))) av) (ho : OkArgs xs)
    (hk : k.isLP = true) {Q : Value → Shared → Prop}
    (h0 : pt op xs = [] → ∀ v f' s', Le f f' → IsVal prog w f' 0 .nothing v → St B f' N s' → Q v s')
    (h1 : pt op xs ≠ [] → ∀ v f' s', Le f f' → IsRes prog w f' v (kdOf (pt op xs)) (total (pt op xs)) (rits (kdOf (pt op xs)) (pt op xs)) (resNames op un xs) → St B f' N s' → Q v s') : Wp prog w A (call (.ref 625) [.ref x, .bool op, .bool un]) Q s := by
  refine W_enterC [("v", .ref x), ("recurse", .bool op), ("use_names", .bool un)] [("use_names", .bool un), ("recurse", .bool op)] [("v", .ref x)] (fun L => [(L + 2, IsCellN), (L + 1, IsCellO (.ref x))]) hA (fn_unlisted X) X.lim H (body := fBody (st 93)) rfl rfl (by kernel_rfl) (fun L => by kernel_rfl) (by kernel_rfl) (by kernel_rfl) (fun L => by kernel_rfl) ["names", "v"] (fun L => by kernel_rfl) (by decide +kernel) ?_
  intro L s1 H1 R
  have kc1 : (callEnvC F625 L 625).cells.lookup (Str.ofString "v") = some (L + 1) := by kernel_rfl
  have kc2 : (callEnvC F625 L 625).cells.lookup (Str.ofString "names") = some (L + 2) := by kernel_rfl
  replace H1 : St B f ((L, HasVars [("use_names", .bool un), ("recurse", .bool op)]) :: (L + 2, IsCellN) :: (L + 1, IsCellO (.ref x)) :: N) s1 := H1
  conv in fBody _ => whnf
  have hlen := hvs.length
  have ho1 := ho.1
  walk_at "R"
  refine W_kind X (by assumption) hv.kind fun t4 s6 H6 => ?_
  walk_at "R"
  refine W_ninT (St.mem (by assumption) (by walk_at "mem")) (by walk_at "strs") ?_
  rw [kd_lp, hk]
  walk_at "R"
  refine plain_ok X (R.le (by lia)) (by assumption) hv hli (by lia) ha (fun hs e => by cases e; rw [List.length_map]; lia) fun b us s7 hus H7 => ?_
  replace hus : All2 IsNm (xs.map (·.1)) us := hus
  obtain ⟨f2, le2, H8, k8⟩ := (show St B f ((b, IsLst us) :: (L, HasVars [("use_names", .bool un), ("recurse", .bool op)]) :: (L + 2, IsCellN) :: (L + 1, IsCellO (.ref x)) :: N) s7 by walk_at "arr").freeze
  replace k8 : At f2 b (IsLst us) := k8
  have hv2 := hv.mono le2
  have hli2 := hli.mono le2
  clear H7 H6
  walk_at "R"
  refine W_ListComp (cl := [(Str.ofString "v", L + 1), (Str.ofString "names", L + 2)]) (by kernel_rfl) (by kernel_rfl) ?_
  walk_at "R"
  refine W_items X (by assumption) hv2 rfl fun s8 H9 => ?_
  walk_at "R"
  refine W_lenL (by assumption) (St.at (by assumption) hli2) (by lia) fun t s9 H10 => ?_
  walk_at "R"
  refine W_iter_range (by walk_at "pull") R.hh (by lia) ?_
  intro it s10 I10 H11
  refine W_compG (by kernel_rfl) I10 (fun j f' N' vs' => All2 (IsArg prog w f') (xs.take j) vs' ∧ N' = (L, HasVars [("use_names", .bool un), ("recurse", .bool op)]) :: (L + 2, IsCellO (.ref b)) :: (L + 1, IsCellO (.ref x)) :: N) (by walk_at "arr") (Le.refl _) ⟨.nil, rfl⟩ ?_ ?_
  · rintro Q1 C acc j f' N' vs' l s11 v hn hj hl ⟨g1, rfl⟩ ⟨tv, rfl⟩ H12
    have hj' : j < xs.length := by lia
    have hv3 := hv2.mono hl
    obtain ⟨vv, hvv1, hvv2⟩ := hvs.get' (List.getElem?_eq_getElem hj')
    obtain ⟨nv, hnv1, hnv2⟩ := hus.get' (a := xs[j].1) (i := j) (by simp [hj'])
    walk_at "R"
    refine W_itemL (St.at (by assumption) (k8.mono hl)) hnv1 (by lia) ?_
    walk_at "R"
    refine W_items X (by assumption) hv3 rfl fun s12 H13 => ?_
    walk_at "R"
    refine W_itemL (St.at (by assumption) (hli2.mono hl)) hvv1 (by lia) ?_
    walk_at "R"
    rename_i tp _ H14
    obtain ⟨f3, le3, H15, k15⟩ := H14.freeze
    refine ⟨f3, _, _, hl.trans le3, ⟨?_, rfl⟩, by have := g1.length; rw [List.length_take] at this; lia, by walk_at "arr"⟩
    rw [List.take_succ, List.getElem?_eq_getElem hj']
    exact All2.snoc (g1.imp fun _ _ _ h => h.mono le3) ⟨tp, nv, vv, rfl, k15, hnv2, hvv2.mono (le2.trans (hl.trans le3))⟩
  rintro acc f' N' vs' s11 hl ⟨g1, rfl⟩ H12
  rw [List.take_of_length_le (by lia)] at g1
  obtain ⟨f3, le3, H13, k13⟩ := H12.freeze
  walk_at "R"
  refine combined_ok X R op un (by assumption) k13 (g1.imp fun _ _ _ h => h.mono le3) ho (fun e v f4 s12 le4 hv4 H14 => ?_) (fun e v f4 s12 le4 hv4 H14 => ?_)
  · exact h0 e v f4 _ (le2.trans (hl.trans (le3.trans le4))) hv4 (by walk_at "arr")
  · exact h1 e v f4 _ (le2.trans (hl.trans (le3.trans le4))) hv4 (by walk_at "arr")
end
theorem kd_nothing (k : Kd) : (k.s == Str.ofString "nothing") = false := by cases k <;> decide +kernel
theorem kd_name (k : Kd) : (k.s == Str.ofString "name") = false := by cases k <;> decide +kernel
section
variable {prog : Program} {w : World} {P : Params} {B : Shared} {f : Heap} {N : Led} {s : Shared} {A : Around} {env : Env}
noncomputable def ValP (prog : Program) (w : World) (B : Shared) (n : Nat) : Prop := ∀ {A : Around} {f : Heap} {N : Led} {s : Shared} {p : Plan} {v : Value} {Q : Value → Shared → Prop}, Room A (n + 6) → St B f N s → IsPlan f n p v → OkPlan n p →
  (∀ v' f' s', Le f f' → IsVal prog w f' n p v' → St B f' N s' → Q v' s') → Wp prog w A (call (.ref 649) [v]) Q s
theorem value_ok (X : Base (K0 P) B) : ∀ n, ValP prog w B n := by
  refine byN fun n ih => ?_
  intro A f N s p v Q hA H hv ho h
  refine W_enter [("plan", v)] hA (fn_law_value X) X.lim H (body := fBody (st 98)) rfl (.of_eq rfl) (by kernel_rfl) ?_
  intro L s1 H1 R
  have tail : ∀ (k : Kd) tk a hv hd m ia us f1 s2 l1, Le f f1 → v = .ref a → (∃ iv, At f a (IsLst [.str k.s tk, iv, hv])) → IsHeads f hd hv → OkHeads m hd → m ≤ 3 → At f1 ia (IsLst us) → us.length = m →
      (∀ x b av f2, Le f1 f2 → IsVec w f2 x k (.ref b) av → At f2 b (IsLst us) → IsAttrs prog w f2 hd av → IsVal prog w f2 n p (.ref x)) →
      St B f1 ((L, HasVars (("items", .ref ia) :: ("plan", v) :: l1)) :: N) s2 →
      Wp prog w (A.deeper (callEnv F649 L 649)) (execs ((fBody (st 98)).drop 4) (callEnv F649 L 649)) (fun fl s'' => Q (match fl with | .ret v => v | _ => .none) s'') s2 := by
    rintro k tk a hv hd m ia us f1 s2 l1 hl rfl ⟨iv, ha⟩ hh hoh hm hia hus hfin H2
    conv in List.drop _ _ => whnf
    have ha1 := ha.mono hl
    walk_at "R"
    refine W_listof (by assumption) (by walk_at "mem") (St.at (by assumption) hia) (by lia) fun b s4 H4 => ?_
    walk_at "R"
    refine mk_Vector X (R.le (by lia)) (by assumption) fun x dx s5 H5 => ?_
    walk_at "R"
    refine named_ok X (R.le (by lia)) (by walk_at "arr") (hh.mono hl) (fun hs e => by have := (hoh hs e).1; lia) fun f2 av s6 le2 hav H6 => ?_
    obtain ⟨f3, le3, H7, k1, k2, k3⟩ := (show St B f2 ((x, IsInst 321 dx) :: (dx, DictIs w.params [("kind", .str k.s tk), ("items", .ref b), ("attrs", av), ("shared", .bool false), ("loose", .bool false)]) :: (b, IsLst us) :: N) s6 by walk_at "arr").frz3
    exact h _ f3 _ (hl.trans (le2.trans le3)) (hfin x b av f3 (le2.trans le3) ⟨dx, _, _, _, k1, k2⟩ k3 (hav.mono le3)) H7
  conv in fBody _ => whnf
  have e3 := hs_in3 ho true
  rw [Bool.true_and] at e3
  cases p with
  | nothing =>
    rw [IsPlan_nothing] at hv
    obtain ⟨a, t, rfl, h1⟩ := hv
    walk_at "R"
    rw [if_pos (by decide +kernel)]
    walk_at "R"
    refine null_ok X (R.le (by lia)) (by assumption) fun x f2 s2 le2 hx H2 => ?_
    exact h _ f2 _ le2 (hx n) (by walk_at "arr")
  | name =>
    rw [IsPlan_name] at hv
    obtain ⟨a, t, rfl, h1⟩ := hv
    walk_at "R"
    rw [if_neg (by decide +kernel)]
    walk_at "R"
    rw [if_pos (by decide +kernel)]
    walk_at "R"
    refine mk_Symbol X (R.le (by lia)) (by assumption) fun x dx t s2 H2 => ?_
    obtain ⟨f3, a1, H3, o1⟩ := H2.freeze
    obtain ⟨f4, a2, H4, o2⟩ := H3.freeze
    exact h _ f4 _ (a1.trans a2) (IsVal_name ▸ ⟨x, dx, t, _, rfl, At.mono o1 a2, o2⟩) (by walk_at "arr")
  | row k its hd =>
    have ho' := ho
    rw [OkPlan_row] at ho'
    rw [IsPlan_row] at hv
    obtain ⟨a, t, iv, hv, rfl, h1, ⟨li, vs, rfl, h2, h3⟩, h4⟩ := hv
    walk_at "R"
    rw [kd_nothing]
    walk_at "R"
    rw [kd_name]
    walk_at "R"
    rw [show [Str.ofString "list", Str.ofString "pairlist", Str.ofString "expression"].any (· == k.s) = false from e3]
    rw [if_neg Bool.false_ne_true]
    refine W_nil ?_
    try dsimp only
    exact tail k t a hv hd its.length li vs f _ [] (Le.refl f) rfl ⟨_, h1⟩ h4 ho'.2.2.2 ho'.2.1 h2 h3.length.symm (fun x b av f2 le2 c1 c2 c3 => IsVal_row ▸ ⟨x, .ref b, av, rfl, c1, ⟨b, vs, rfl, c2, h3⟩, c3⟩) (by walk_at "arr")
  | tree k kids hd =>
    cases n with
    | zero => exact hv.elim
    | succ n =>
    obtain ⟨a, t, iv, hv, rfl, h1, ⟨li, vs, rfl, h2, h3⟩, h4⟩ := hv
    walk_at "R"
    rw [kd_nothing]
    walk_at "R"
    rw [kd_name]
    walk_at "R"
    rw [show [Str.ofString "list", Str.ofString "pairlist", Str.ofString "expression"].any (· == k.s) = true from e3]
    walk_at "R"
    refine W_Assign_ListComp (cl := []) (by kernel_rfl) (by kernel_rfl) ?_
    walk_at "R"
    refine W_iter_list (by assumption) R.hh (h2.imp fun _ => IsLst.w) ?_
    intro it s7 I7 H7
    refine W_compAG (by kernel_rfl) I7 (fun j f' N' us => All2 (IsVal prog w f' n) (kids.take j) us ∧ N' = (L, HasVars [("items", .ref li), ("plan", .ref a)]) :: N) (by walk_at "arr") (Le.refl f) ⟨.nil, rfl⟩ ?_ (by kernel_rfl) ?_
    · rintro Q1 C acc j f' N' us l s8 v hn hj hl ⟨g1, rfl⟩ hvj H8
      obtain ⟨q, hq, hvq⟩ := h3.get (i := j) (by simpa using hvj)
      walk_at "R"
      refine ih n rfl (R.le (by lia)) (by assumption) (hvq.mono hl) (ho.2.2.1 q (List.mem_of_getElem? hq)) fun v2 f2 s9 le2 hv2 H9 => ?_
      refine hn _ _ ⟨f2, _, _, hl.trans le2, ⟨?_, rfl⟩, by have := g1.length; rw [List.length_take] at this; have := ho.2.1; lia, by walk_at "arr"⟩
      rw [List.take_succ, hq]
      exact All2.snoc (g1.imp fun _ _ _ h => h.mono le2) hv2
    · rintro acc f' N' us s8 hl ⟨g1, rfl⟩ H8
      rw [List.take_of_length_le (by rw [h3.length]; simp)] at g1
      refine ⟨_, _, Sel.cons (by walk_at "ext") Sel.refl, ?_⟩
      intro s9 H9
      obtain ⟨f2, le2, H10, k10⟩ := (show St B f' ((acc, IsLst us) :: (L, HasVars [("items", .ref acc), ("plan", .ref a)]) :: N) s9 from St.arrv L (by assumption) (by walk_at "ext") (by walk_at "sel") (by walk_at "amp")).freeze
      refine W_nil ?_
      try dsimp only
      exact tail k t a hv hd kids.length acc us f2 _ [] (hl.trans le2) rfl ⟨_, h1⟩ h4 ho.2.2.2 ho.2.1 k10 g1.length.symm (fun x b av f3 le3 c1 c2 c3 => ⟨x, .ref b, av, rfl, c1, ⟨b, us, rfl, c2, g1.imp fun _ _ _ h => h.mono (le2.trans le3)⟩, c3⟩) (by walk_at "arr")
end
noncomputable def IsTx (x : Str) (v : Value) : Prop := ∃ t, v = .str x t
noncomputable def IsRow (f : Heap) (r : Row) (v : Value) : Prop := ∃ a c ov bv rv iv t, v = .ref a ∧ At f a (IsLst [.ref c, ov, bv, rv]) ∧ At f c (IsLst [.str r.kd.s t, iv]) ∧ IsNm r.own ov ∧ IsNm r.base bv ∧ LstOf f IsTx r.around rv ∧ (r.kd.atomic = true → IsIt r.it iv)
noncomputable def ifBd : Stmt → List Stmt
  | .If _ b _ _ => b
  | _ => []
noncomputable def nthSt (l : List Stmt) (i : Nat) : Stmt := (l[i]?).getD (.Pass ⟨0, 0, 0, 0⟩)
section
variable {prog : Program} {w : World} {P : Params} {B : Shared} {f : Heap} {N : Led} {s : Shared} {A : Around} {env : Env}
theorem IsRow.mono {f f' : Heap} {r : Row} {v : Value} (h : IsRow f r v) (hl : Le f f') : IsRow f' r v := by
  obtain ⟨a, c, ov, bv, rv, iv, t, h1, h2, h3, h4, h5, h6, h7⟩ := h
  exact ⟨a, c, ov, bv, rv, iv, t, h1, h2.mono hl, h3.mono hl, h4, h5, h6.mono hl fun _ _ _ h => h, h7⟩
theorem W_addL {a b : Addr} {vs us : List Value} {L l} {Q : Value → Shared → Prop} (H : St B f N s) (hL : (L, HasVars l) ∈ N) (ha : At s.heap a (IsLst vs)) (hb : At s.heap b (IsLst us)) (hn : vs.length + us.length ≤ 100000) (h : ∀ c s', St B f ((c, IsLst (vs ++ us)) :: N) s' → Q (.ref c) s') :
    Wp prog w A (binaryOp .Add (.ref a) (.ref b)) Q s := by
  obtain ⟨m, news, X⟩ := H.brg hL
  exact ⟨add_lists (hsz := by rw [sizeLine_eq]; lia) X.F X.G ha.lst hb.lst fun h' F' N' => h _ _ (X.new h' s.toks _ _ _ F' N' (fun q hq => Heap.lt_size (X.G q hq).1) ⟨0, rfl⟩)⟩
theorem spread_leaves (X : Base (K0 P) B) {L ha a li fa : Addr} {k : Kd} {base : Nm} {bv rv hv : Value} {around : List Str} {its : List It} {ns : List Nm} {vs nus us : List Value} {rows : List Row} {t : Tok} (hA : Room A 3)
    (H : St B f ((L, HasVars [("heads", .ref ha), ("found", .ref fa), ("around", rv), ("base", bv), ("plan", .ref a)]) :: (fa, IsLst us) :: N) s) (hp : At f a (IsLst [.str k.s t, .ref li, hv])) (hli : At f li (IsLst vs)) (hha : At f ha (IsLst nus))
    (hns : All2 IsNm ns nus) (hl1 : its.length = vs.length) (hl2 : ns.length = vs.length) (hits : k.atomic = true → All2 IsIt its vs) (hb : IsNm base bv) (hr : LstOf f IsTx around rv) (hn : rows.length + vs.length ≤ 5000) (hus : All2 (IsRow f) rows us) (hv3 : vs.length ≤ 3) {Q : Flow → Shared → Prop}
    (h : ∀ f' us' s', Le f f' → All2 (IsRow f') (rows ++ rowsOf k base around its ns) us' → St B f' ((fa, IsLst us') :: N) s' → Q (.ret .none) s') : Wp prog w A (execs (ifBd (nthSt (fBody (st 101)) 3)) (callEnv F670 L 670)) Q s := by
  conv in ifBd _ => whnf
  walk_at "R"
  refine W_lenL (by assumption) (St.at (by assumption) hha) (by rw [← hns.length]; lia) fun t1 s2 H2 => ?_
  walk_at "R"
  refine W_iter_range (by walk_at "pull") hA.hh (by rw [← hns.length]; lia) ?_
  intro it s3 I3 H3
  have hrl : (rowsOf k base around its ns).length = vs.length := by rw [rowsOf_len _ _ _ _ _ (hl1.trans hl2.symm), hl1]
  refine W_loopG I3 (fun j f' N' => ∃ us', All2 (IsRow f') (rows ++ (rowsOf k base around its ns).take j) us' ∧ N' = (L, HasVars [("heads", .ref ha), ("found", .ref fa), ("around", rv), ("base", bv), ("plan", .ref a)]) :: (fa, IsLst us') :: N) (by walk_at "arr") (Le.refl _) ⟨us, by rw [List.take_zero, List.append_nil]; exact hus, rfl⟩ ?_ ?_
  · rintro Q1 i f' N' s4 v hn hi hl ⟨us', g1, rfl⟩ ⟨tv, rfl⟩ H4
    have hi' : i < vs.length := by rw [← hns.length] at hi; lia
    obtain ⟨nv, hnv1, hnv2⟩ := hns.get' (List.getElem?_eq_getElem (show i < ns.length by lia))
    have hus' : us'.length ≤ rows.length + vs.length := by have := g1.length; rw [List.length_append, List.length_take] at this; lia
    have hp' := hp.mono hl
    walk_at "R"
    refine W_itemL (St.at (by assumption) (hli.mono hl)) (List.getElem?_eq_getElem hi') (by lia) ?_
    walk_at "R"
    refine W_itemL (St.at (by assumption) (hha.mono hl)) hnv1 (by lia) ?_
    walk_at "R"
    rename_i c _ _ a2 _ H5
    obtain ⟨f2, le2, H6, k6⟩ := (show St B f' ((c, IsLst [.str k.s t, vs[i]]) :: (a2, IsLst [.ref c, nv, bv, rv]) :: (L, HasVars [("heads", .ref ha), ("found", .ref fa), ("around", rv), ("base", bv), ("plan", .ref a)]) :: (it, ItRange nus.length (i + 1)) :: (fa, IsLst us') :: N) _ from St.arrv L (by assumption) (by walk_at "ext") (by walk_at "sel") (by walk_at "amp")).freeze
    obtain ⟨f3, le3, H7, k7⟩ := H6.freeze
    clear H5 H6 H4 H3 H2
    refine W_append (by walk_at "pull") (by lia) fun s5 H8 => ?_
    walk_at "R"
    refine ⟨f3, _, hl.trans (le2.trans le3), ⟨us' ++ [.ref a2], ?_, rfl⟩, by walk_at "arr"⟩
    rw [List.take_succ, rowsOf_get k base around its ns i its[i] ns[i] (List.getElem?_eq_getElem (by lia)) (List.getElem?_eq_getElem (by lia)), ← List.append_assoc]
    refine All2.snoc (g1.imp fun _ _ _ h => h.mono (le2.trans le3)) ⟨a2, c, nv, bv, rv, vs[i], t, rfl, k7, At.mono k6 le3, hnv2, hb, hr.mono (hl.trans (le2.trans le3)) (fun _ _ _ h => h), fun e => ?_⟩
    exact (hits e).idx i (by lia) hi'
  · rintro f' N' s4 hl ⟨us', g1, rfl⟩ H4
    rw [List.take_of_length_le (by rw [hrl, ← hns.length]; lia)] at g1
    walk_at "R"
    exact h f' us' _ hl g1 (by walk_at "arr")
end
section
variable {prog : Program} {w : World} {P : Params} {B : Shared} {f : Heap} {N : Led} {s : Shared} {A : Around} {env : Env}
noncomputable def SprP (prog : Program) (w : World) (B : Shared) (fa : Addr) (op : Bool) (n : Nat) : Prop := ∀ {A : Around} {f : Heap} {N : Led} {s : Shared} {p : Plan} {v : Value} {base : Nm} {bv rv : Value} {around : List Str} {rows : List Row} {us : List Value} {Q : Value → Shared → Prop}, Room A (n + 4) →
  St B f ((fa, IsLst us) :: N) s → IsPlan f n p v → OkPlan n p → IsNm base bv → LstOf f IsTx around rv → (txt base).length + 3 * n ≤ 1000 → around.length + n ≤ 100 → rows.length + 3 ^ (n + 1) ≤ 5000 → All2 (IsRow f) rows us →
  (∀ f' us' s', Le f f' → All2 (IsRow f') (rows ++ spr op p base around rows.length) us' → St B f' ((fa, IsLst us') :: N) s' → Q .none s') → Wp prog w A (call (.ref 670) [v, .bool op, bv, rv, .ref fa]) Q s
theorem idOf_len {a b c : Nat} (ha : a < 100000) (hb : b < 100000) (hc : c < 100000) : (nt a).length ≤ 10 ∧ (nt b).length ≤ 10 ∧ (nt c).length ≤ 10 := ⟨nt_length ha, nt_length hb, nt_length hc⟩
theorem spread_ok (X : Base (K0 P) B) {fa : Addr} (op : Bool) : ∀ n, SprP prog w B fa op n := by
  refine byN fun n ih => ?_
  intro A f N s p v base bv rv around rows us Q hA H hv ho hb hr hlb hla hrows hus h
  refine W_enter [("found", .ref fa), ("around", rv), ("base", bv), ("opened_so", .bool op), ("plan", v)] hA (fn_law_spread X) X.lim H (body := fBody (st 101)) rfl (.of_eq rfl) (by kernel_rfl) ?_
  intro L s1 H1 R
  have h9 : 3 ≤ 3 ^ (n + 1) := Nat.le_self_pow (by lia) 3
  -- heads
  have heads : ∀ (a li : Addr) (k : Kd) (t : Tok) (hv : Value) (hd : Option (List Nm)) (m : Nat) (vs : List Value) (s2 : Shared) (Q' : Flow → Shared → Prop), v = .ref a → At f a (IsLst [.str k.s t, .ref li, hv]) → At f li (IsLst vs) → vs.length = m → IsHeads f hd hv → OkHeads m hd → m ≤ 3 →
      St B f ((fa, IsLst us) :: (L, HasVars [("found", .ref fa), ("around", rv), ("base", bv), ("opened_so", .bool op), ("plan", v)]) :: N) s2 →
      (∀ f2 ha nus s3, Le f f2 → At f2 ha (IsLst nus) → All2 IsNm (hd.getD (List.replicate m nm0)) nus → St B f2 ((fa, IsLst us) :: (L, HasVars [("heads", .ref ha), ("found", .ref fa), ("around", rv), ("base", bv), ("opened_so", .bool op), ("plan", v)]) :: N) s3 → Q' .next s3) →
      Wp prog w (A.deeper (callEnv F670 L 670)) (exec (nthSt (fBody (st 101)) 2) (callEnv F670 L 670)) Q' s2 := by
    rintro a li k t hv hd m vs s2 Q' rfl h1 h2 hm hh hoh hm3 H2 hQ
    conv in nthSt _ _ => whnf
    walk_at "R"
    refine W_IfExp ?_
    walk_at "R"
    cases hd with
    | none =>
      cases hh
      rw [if_neg (by decide)]
      walk_at "R"
      refine W_lenL (by assumption) (St.at (by assumption) h2) (by lia) fun t1 s3 H3 => ?_
      refine W_mulL (by assumption) (by walk_at "mem") (St.mem (by assumption) (by walk_at "mem")) (by lia) fun b s4 H4 => ?_
      obtain ⟨f2, le2, H5, k5⟩ := (show St B f ((b, IsLst _) :: (fa, IsLst us) :: (L, HasVars [("found", .ref fa), ("around", rv), ("base", bv), ("opened_so", .bool op), ("plan", .ref a)]) :: N) s4 by walk_at "arr").freeze
      walk_at "R"
      refine hQ f2 b _ _ le2 k5 ?_ (by walk_at "arr")
      rw [hm]
      show All2 IsNm (List.replicate m nm0) (List.replicate m _)
      clear hoh hQ k5 H5 hm hm3
      induction m with
      | zero => exact .nil
      | succ m ih => rw [List.replicate_succ, List.replicate_succ]; exact .cons ⟨_, rfl⟩ ih
    | some hs =>
      obtain ⟨b, nus, rfl, k1, k2⟩ := hh
      rw [if_pos (by simp)]
      walk_at "R"
      exact hQ f b nus _ (Le.refl f) k1 k2 (by walk_at "arr")
  conv in fBody _ => whnf
  cases p with
  | nothing =>
    rw [IsPlan_nothing] at hv
    obtain ⟨a, t, rfl, h1⟩ := hv
    walk_at "R"
    rw [if_pos (by decide +kernel)]
    walk_at "R"
    exact h f us _ (Le.refl f) (by rw [spr, List.append_nil]; exact hus) (by walk_at "arr")
  | name =>
    rw [IsPlan_name] at hv
    obtain ⟨a, t, rfl, h1⟩ := hv
    walk_at "R"
    rw [if_neg (by decide +kernel)]
    walk_at "R"
    rw [if_pos (by decide +kernel)]
    walk_at "R"
    rename_i t1 _ _ c _ _ t2 _ _ a2 _ H5
    obtain ⟨f2, le2, H6, k6⟩ := (show St B f ((c, IsLst [.str (Str.ofString "list") t1, .none]) :: (a2, IsLst [.ref c, .str (Str.ofString "") t2, bv, rv]) :: (L, HasVars [("found", .ref fa), ("around", rv), ("base", bv), ("opened_so", .bool op), ("plan", .ref a)]) :: (fa, IsLst us) :: N) _ by walk_at "arr").freeze
    obtain ⟨f3, le3, H7, k7⟩ := H6.freeze
    clear H5 H6
    have := hus.length
    refine W_append (by walk_at "pull") (by lia) fun s5 H8 => ?_
    walk_at "R"
    refine h f3 _ _ (le2.trans le3) ?_ (by walk_at "arr")
    rw [spr]
    exact All2.snoc (hus.imp fun _ _ _ h => h.mono (le2.trans le3)) ⟨a2, c, _, bv, rv, .none, _, rfl, k7, At.mono k6 le3, ⟨_, rfl⟩, hb, hr.mono (le2.trans le3) (fun _ _ _ h => h), fun _ => rfl⟩
  | row k its hd =>
    have ho' := ho
    rw [OkPlan_row] at ho'
    have hv0 := hv
    rw [IsPlan_row] at hv
    obtain ⟨a, t, iv, hv, rfl, h1, ⟨li, vs, rfl, h2, h3⟩, h4⟩ := hv
    walk_at "R"
    rw [kd_nothing]
    walk_at "R"
    rw [kd_name, if_neg Bool.false_ne_true]
    refine W_nil ?_
    try dsimp only
    refine W_cons ?_
    refine heads a li k t hv hd its.length vs _ _ rfl h1 h2 h3.length.symm h4 ho'.2.2.2 ho'.2.1 (by walk_at "arr") fun f2 ha nus s3 le2 k1 k2 H3 => ?_
    try dsimp only
    refine W_cons ?_
    walk_at "R"
    refine lopen_ok X (R.le (by lia)) (by assumption) ho (hv0.mono le2) fun s4 H4 => ?_
    rw [show (Plan.row k its hd).opens op = false from rfl]
    refine W_truth ?_
    rw [Bool.not_false, if_pos rfl]
    refine spread_leaves X (R.le (by lia)) (St.arrv L (by assumption) (by walk_at "ext") (by walk_at "sel") (by walk_at "amp")) (h1.mono le2) (h2.mono le2) k1 k2 h3.length (by rw [ho'.2.2.2.len, h3.length]) (fun _ => h3) hb (hr.mono le2 fun _ _ _ h => h) (by have := h3.length; lia) (hus.imp fun _ _ _ h => h.mono le2) (by have := h3.length; lia) fun f3 us3 s5 le3 hus3 H5 => ?_
    exact h f3 us3 _ (le2.trans le3) (by rw [spr]; exact hus3) H5
  | tree k kids hd =>
    cases n with
    | zero => exact hv.elim
    | succ n =>
    have hv0 := hv
    obtain ⟨a, t, iv, hv, rfl, h1, ⟨li, vs, rfl, h2, h3⟩, h4⟩ := hv
    have hk3 := ho.2.1
    have hlen3 := h3.length
    walk_at "R"
    rw [kd_nothing]
    walk_at "R"
    rw [kd_name, if_neg Bool.false_ne_true]
    refine W_nil ?_
    try dsimp only
    refine W_cons ?_
    refine heads a li k t hv hd kids.length vs _ _ rfl h1 h2 h3.length.symm h4 ho.2.2.2 ho.2.1 (by walk_at "arr") fun f2 ha nus s3 le2 k1 k2 H3 => ?_
    try dsimp only
    refine W_cons ?_
    walk_at "R"
    refine lopen_ok X (R.le (by lia)) (by assumption) ho (hv0.mono le2) fun s4 H4 => ?_
    rw [show (Plan.tree k kids hd).opens op = op from rfl]
    refine W_truth ?_
    cases op with
    | false =>
      rw [Bool.not_false, if_pos rfl]
      refine spread_leaves X (R.le (by lia)) (its := kids.map fun _ => It.no) (St.arrv L (by assumption) (by walk_at "ext") (by walk_at "sel") (by walk_at "amp")) (h1.mono le2) (h2.mono le2) k1 k2 (by rw [List.length_map]; exact hlen3) (by rw [ho.2.2.2.len, hlen3]) (fun e => by have := ho.1; cases k <;> first | (cases this; done) | (cases e; done)) hb (hr.mono le2 fun _ _ _ h => h) (by lia) (hus.imp fun _ _ _ h => h.mono le2) (by lia) fun f3 us3 s5 le3 hus3 H5 => ?_
      exact h f3 us3 _ (le2.trans le3) (by rw [spr, if_neg Bool.false_ne_true]; exact hus3) H5
    | true =>
      rw [Bool.not_true, if_neg Bool.false_ne_true]
      refine W_nil ?_
      try dsimp only
      have h1' := h1.mono le2
      clear H3
      walk_at "R"
      refine W_lenL (by assumption) (St.at (by assumption) k1) (by rw [← k2.length, ho.2.2.2.len]; lia) fun t5 s10 H10 => ?_
      walk_at "R"
      refine W_iter_range (by walk_at "pull") R.hh (by rw [← k2.length, ho.2.2.2.len]; lia) ?_
      intro it s11 I11 H11
      have hnl : (hd.getD (List.replicate kids.length nm0)).length = kids.length := ho.2.2.2.len
      have hnok := ho.2.2.2.ok
      have hspr : spr true (.tree k kids hd) base around rows.length = sprL true kids (hd.getD (List.replicate kids.length nm0)) base around 0 rows.length := by rw [spr, if_pos rfl]
      generalize hd.getD (List.replicate kids.length nm0) = ns at *
      have hp : ∀ q ∈ kids, ∀ base around m, (spr true q base around m).length = cl true q := fun q hq => spr_len true n q (ho.2.2.1 q hq)
      have h3n : 3 ^ (n + 1 + 1) = 3 * 3 ^ (n + 1) := by rw [Nat.pow_succ 3 (n + 1), Nat.mul_comm]
      have hbd : ∀ i, i ≤ kids.length → (sprL true (kids.take i) (ns.take i) base around 0 rows.length).length ≤ i * 3 ^ (n + 1) := by
        intro i hi
        rw [sprL_len true _ _ base around 0 rows.length (by rw [List.length_take, List.length_take, hnl]) fun q hq => hp q (List.mem_of_mem_take hq)]
        have := clL_le true (3 ^ (n + 1)) (kids.take i) fun q hq => cl_le true n q (ho.2.2.1 q (List.mem_of_mem_take hq))
        rwa [List.length_take, Nat.min_eq_left hi] at this
      refine W_loopG I11 (fun j f' N' => ∃ us', All2 (IsRow f') (rows ++ sprL true (kids.take j) (ns.take j) base around 0 rows.length) us' ∧ N' = (L, HasVars [("heads", .ref ha), ("found", .ref fa), ("around", rv), ("base", bv), ("opened_so", .bool true), ("plan", .ref a)]) :: (fa, IsLst us') :: N) (by walk_at "arr") (Le.refl _) ⟨us, by rw [List.take_zero, List.take_zero, sprL_nil, List.append_nil]; exact hus.imp fun _ _ _ h => h.mono le2, rfl⟩ ?_ ?_
      · rintro Q1 i f' N' s12 v hn hi hl ⟨us', g1, rfl⟩ ⟨tv, rfl⟩ H12
        have hi' : i < kids.length := by rw [← k2.length, hnl] at hi; exact hi
        have hbi := hbd i (by lia)
        have hm3 : i * 3 ^ (n + 1) + 3 ^ (n + 1) ≤ 3 * 3 ^ (n + 1) := by have := Nat.mul_le_mul_right (3 ^ (n + 1)) (show i + 1 ≤ 3 by lia); rw [Nat.succ_mul] at this; exact this
        obtain ⟨vv, hvv1, hvv2⟩ := h3.get' (List.getElem?_eq_getElem hi')
        obtain ⟨nv, hnv1, hnv2⟩ := k2.get' (List.getElem?_eq_getElem (show i < ns.length by lia))
        have hok1 := hnok _ (List.getElem_mem (show i < ns.length by lia))
        have hg1 := g1.length
        rw [List.length_append] at hg1
        have hstep : rows ++ sprL true (kids.take (i + 1)) (ns.take (i + 1)) base around 0 rows.length = (rows ++ sprL true (kids.take i) (ns.take i) base around 0 rows.length) ++ sprOne true kids[i] (ns[i]'(by lia)) base around i us'.length := by
          rw [List.take_succ, List.take_succ, List.getElem?_eq_getElem hi', List.getElem?_eq_getElem (show i < ns.length by lia), sprL_app _ _ _ _ _ _ _ _ _ (by rw [List.length_take, List.length_take, hnl]), ← List.append_assoc]
          rw [show (some kids[i]).toList = [kids[i]] from rfl, show (some (ns[i]'(by lia))).toList = [ns[i]'(by lia)] from rfl, sprL_one, hg1, List.length_take, Nat.min_eq_left (by lia : i ≤ kids.length), Nat.zero_add]
        have fin : ∀ f4 us4 s13, Le f' f4 → All2 (IsRow f4) ((rows ++ sprL true (kids.take i) (ns.take i) base around 0 rows.length) ++ sprOne true kids[i] (ns[i]'(by lia)) base around i us'.length) us4 →
            St B f4 ((it, ItRange nus.length (i + 1)) :: (L, HasVars [("heads", .ref ha), ("found", .ref fa), ("around", rv), ("base", bv), ("opened_so", .bool true), ("plan", .ref a)]) :: (fa, IsLst us4) :: N) s13 → ∃ f'' N'', Le f2 f'' ∧ (∃ us', All2 (IsRow f'') (rows ++ sprL true (kids.take (i + 1)) (ns.take (i + 1)) base around 0 rows.length) us' ∧ N'' = (L, HasVars [("heads", .ref ha), ("found", .ref fa), ("around", rv), ("base", bv), ("opened_so", .bool true), ("plan", .ref a)]) :: (fa, IsLst us') :: N) ∧ St B f'' ((it, ItRange nus.length (i + 1)) :: N'') s13 := by
          intro f4 us4 s13 hl4 hus4 H13
          exact ⟨f4, _, hl.trans hl4, ⟨us4, by rw [hstep]; exact hus4, rfl⟩, H13⟩
        have h1'' := h1'.mono hl
        walk_at "R"
        refine W_itemL (St.at (by assumption) (At.mono k1 hl)) hnv1 (by lia) ?_
        walk_at "R"
        refine nm_eq hnv2 ?_
        walk_at "R"
        cases hq : ((ns[i]'(by lia)) == some (Str.ofString ""))
        · have q := nq2 hq
          walk_at "R"
          obtain ⟨ra, rvs, hrv, hr1, hr2⟩ := hr
          have hrl := hr2.length
          refine W_lenL (by assumption) (St.mem (by assumption) (by walk_at "mem")) (by lia) fun t6 s13 H13 => ?_
          walk_at "R"
          refine W_stri (by assumption) (by lia) fun t7 s14 H14 => ?_
          walk_at "R"
          have hid := idOf_len (a := us'.length) (b := rvs.length) (c := i) (by lia) (by lia) (by lia)
          have hsl : (Str.ofString "/").length = 1 := by decide +kernel
          refine W_adds (by assumption) (by lia) fun t8 s15 H15 => ?_
          walk_at "R"
          subst hrv
          refine W_lenL (by assumption) (St.at (by assumption) (hr1.mono (le2.trans hl))) (by lia) fun t9 s16 H16 => ?_
          walk_at "R"
          refine W_stri (by assumption) (by lia) fun t10 s17 H17 => ?_
          refine W_adds (by assumption) (by rw [Str.length_append]; lia) fun t11 s18 H18 => ?_
          walk_at "R"
          refine W_adds (by assumption) (by rw [Str.length_append, Str.length_append]; lia) fun t12 s19 H19 => ?_
          walk_at "R"
          refine W_stri (by assumption) (by lia) fun t13 s20 H20 => ?_
          refine W_adds (by assumption) (by rw [Str.length_append, Str.length_append, Str.length_append]; lia) fun t14 s21 H21 => ?_
          walk_at "R"
          refine W_addL (by assumption) (by walk_at "mem") (St.at (by assumption) (hr1.mono (le2.trans hl))) (St.mem (by assumption) (by walk_at "mem")) (by simp; lia) fun c s22 H22 => ?_
          walk_at "R"
          refine W_itemL (St.at (by assumption) (h2.mono (le2.trans hl))) hvv1 (by lia) ?_
          walk_at "R"
          refine W_itemL (St.at (by assumption) (At.mono k1 hl)) hnv1 (by lia) ?_
          walk_at "R"
          refine lbehind_ok X (R.le (by lia)) (by assumption) hb hnv2 (by have := hok1.len; lia) fun bv2 s23 hb2 H23 => ?_
          obtain ⟨f3, le3, H24, k24⟩ := (show St B f' ((c, IsLst (rvs ++ [.str (nt us'.length ++ Str.ofString "/" ++ nt rvs.length ++ Str.ofString "/" ++ nt i) t14])) :: (L, HasVars [("inner_around", .ref c), ("heads", .ref ha), ("found", .ref fa), ("around", .ref ra), ("base", bv), ("opened_so", .bool true), ("plan", .ref a)]) :: (it, ItRange nus.length (i + 1)) :: (fa, IsLst us') :: N) s23 from St.arrv L (by assumption) (by walk_at "ext") (by walk_at "sel") (by walk_at "amp")).freeze
          clear H23 H22 H21 H20 H19 H18 H17 H16 H15 H14 H13 H12
          walk_at "R"
          refine ih n rfl (R.le (by lia)) (by walk_at "arr") (hvv2.mono (le2.trans (hl.trans le3))) (ho.2.2.1 _ (List.getElem_mem hi')) hb2 (around := around ++ [idOf us'.length around.length i]) ⟨c, _, rfl, k24, hr2.snoc ⟨t14, by rw [idOf, hrl]⟩⟩ (by have := txt_jb base (ns[i]'(by lia)); have := hok1.len; lia) (by rw [List.length_append, List.length_singleton]; lia) (by rw [List.length_append]; lia) (g1.imp fun _ _ _ h => h.mono le3) fun f4 us4 s25 le4 hus4 H25 => ?_
          walk_at "R"
          refine fin f4 us4 _ (le3.trans le4) ?_ (St.arrv L (by assumption) (by walk_at "ext") (by walk_at "sel") (by walk_at "amp"))
          rw [List.length_append, hg1] at hus4
          rw [sprOne, if_neg q]
          exact hus4
        · have q := nq1 hq
          walk_at "R"
          refine W_itemL (St.at (by assumption) (h2.mono (le2.trans hl))) hvv1 (by lia) ?_
          walk_at "R"
          refine ih n rfl (R.le (by lia)) (by walk_at "arr") (hvv2.mono (le2.trans hl)) (ho.2.2.1 _ (List.getElem_mem hi')) hb (hr.mono (le2.trans hl) fun _ _ _ h => h) (by lia) (by lia) (by rw [List.length_append]; lia) g1 fun f4 us4 s25 le4 hus4 H25 => ?_
          walk_at "R"
          refine fin f4 us4 _ le4 ?_ (St.arrv L (by assumption) (by walk_at "ext") (by walk_at "sel") (by walk_at "amp"))
          rw [List.length_append, hg1] at hus4
          rw [sprOne, if_pos q]
          exact hus4
      · rintro f' N' s12 hl ⟨us', g1, rfl⟩ H12
        have e1 : kids.take nus.length = kids := List.take_of_length_le (by rw [← k2.length, hnl]; exact Nat.le_refl _)
        have e2 : ns.take nus.length = ns := List.take_of_length_le (by rw [← k2.length]; exact Nat.le_refl _)
        rw [e1, e2] at g1
        walk_at "R"
        exact h f' us' _ (le2.trans hl) (by rw [hspr]; exact g1) (by walk_at "arr")
end
noncomputable def Kd.isPl : Kd → Bool
  | .pl => true
  | _ => false
theorem hs_np (k : Kd) : ([Str.ofString "name", Str.ofString "pairlist"].any (· == k.s)) = k.isPl := by cases k <;> decide +kernel
theorem hs_nn (k : Kd) : ([Str.ofString "nothing", Str.ofString "name"].any (· == k.s)) = false := by cases k <;> decide +kernel
noncomputable def boolE : Value → Bool
  | .bool b => b
  | _ => false
noncomputable def IsB (b : Bool) (v : Value) : Prop := v = .bool b
section
variable {prog : Program} {w : World} {P : Params} {B : Shared} {f : Heap} {N : Led} {s : Shared} {A : Around} {env : Env}
theorem W_inB {a : Addr} {vs : List Value} {bs : List Bool} {Q : Value → Shared → Prop} (ha : At s.heap a (IsLst vs)) (hi : All2 IsB bs vs) (h : Q (.bool (bs.any id)) s) : Wp prog w A (compareOp .In (.bool true) (.ref a)) Q s := by
  refine ⟨SeqAt.in_listAt boolE ha.lst (fun y hy => ?_) ?_⟩
  · have hy' : y ∈ vs := by simpa using hy
    have : ∃ b, y = .bool b := by
      clear ha h hy
      induction hi with
      | nil => cases hy'
      | cons hb _ ih =>
        rcases List.mem_cons.mp hy' with rfl | hy'
        · exact ⟨_, hb⟩
        · exact ih hy'
    obtain ⟨b, rfl⟩ := this
    have := SeqAt.EqAt.bool_bool (A := A.in1) (s := s) b true
    rwa [show (b == true) = b by cases b <;> rfl] at this
  · have : vs.toArray.any boolE = bs.any id := by
      rw [← Array.any_toList]
      show vs.any boolE = bs.any id
      clear ha h
      induction hi with
      | nil => rfl
      | cons hb _ ih => cases hb; rw [List.any_cons, List.any_cons, ih]; rfl
    rw [this]; exact h
noncomputable def NamP (prog : Program) (w : World) (B : Shared) (op : Bool) (n : Nat) : Prop := ∀ {A : Around} {f : Heap} {N : Led} {s : Shared} {p : Plan} {v : Value} {Q : Value → Shared → Prop}, Room A (n + 3) → St B f N s → IsPlan f n p v → OkPlan n p →
  (∀ s', St B f N s' → Q (.bool (Mine.hn op p)) s') → Wp prog w A (call (.ref 680) [v, .bool op]) Q s
theorem named_is (X : Base (K0 P) B) (op : Bool) : ∀ n, NamP prog w B op n := by
  refine byN fun n ih => ?_
  intro A f N s p v Q hA H hv ho h
  refine W_enterC [("plan", v), ("opened_so", .bool op)] [("plan", v)] [("opened_so", .bool op)] (fun L => [(L + 1, IsCellO (.bool op))]) hA (fn_law_is_named X) X.lim H (body := fBody (st 103)) rfl rfl (by kernel_rfl) (fun L => by kernel_rfl) (by kernel_rfl) (by kernel_rfl) (fun L => by kernel_rfl) ["opened_so"] (fun L => by kernel_rfl) (by decide +kernel) ?_
  intro L s1 H1 R
  have kc1 : (callEnvC F680 L 680).cells.lookup (Str.ofString "opened_so") = some (L + 1) := by kernel_rfl
  replace H1 : St B f ((L, HasVars [("plan", v)]) :: (L + 1, IsCellO (.bool op)) :: N) s1 := H1
  conv in fBody _ => whnf
  cases p with
  | nothing =>
    rw [IsPlan_nothing] at hv
    obtain ⟨a, t, rfl, h1⟩ := hv
    walk_at "R"
    rw [if_pos (by decide +kernel)]
    walk_at "R"
    exact h _ (by walk_at "arr")
  | name =>
    rw [IsPlan_name] at hv
    obtain ⟨a, t, rfl, h1⟩ := hv
    walk_at "R"
    rw [if_pos (by decide +kernel)]
    walk_at "R"
    exact h _ (by walk_at "arr")
  | row k its hd =>
    have hv0 := hv
    rw [IsPlan_row] at hv
    obtain ⟨a, t, iv, hv, rfl, h1, ⟨li, vs, rfl, h2, h3⟩, h4⟩ := hv
    rw [hn] at h
    walk_at "R"
    rw [hs_nn]
    walk_at "R"
    cases hd with
    | some hs =>
      obtain ⟨b, nus, rfl, k1, k2⟩ := h4
      rw [if_pos (by simp)]
      walk_at "R"
      exact h _ (by walk_at "arr")
    | none =>
      cases h4
      rw [if_neg (by decide)]
      walk_at "R"
      refine lopen_ok X (R.le (by lia)) (by assumption) ho hv0 fun s4 H4 => ?_
      rw [show (Plan.row k its none).opens op = false from rfl]
      walk_at "R"
      exact h _ (by walk_at "arr")
  | tree k kids hd =>
    cases n with
    | zero => exact hv.elim
    | succ n =>
    have hv0 := hv
    obtain ⟨a, t, iv, hv, rfl, h1, ⟨li, vs, rfl, h2, h3⟩, h4⟩ := hv
    rw [hn] at h
    walk_at "R"
    rw [hs_nn]
    walk_at "R"
    cases hd with
    | some hs =>
      obtain ⟨b, nus, rfl, k1, k2⟩ := h4
      rw [if_pos (by simp)]
      walk_at "R"
      exact h _ (by walk_at "arr")
    | none =>
      cases h4
      rw [if_neg (by decide)]
      walk_at "R"
      refine lopen_ok X (R.le (by lia)) (by assumption) ho hv0 fun s4 H4 => ?_
      rw [show (Plan.tree k kids none).opens op = op from rfl]
      rw [show (none : Option (List Nm)).isSome = false from rfl, Bool.false_or] at h
      cases op with
      | false =>
        walk_at "R"
        exact h _ (by walk_at "arr")
      | true =>
        rw [Bool.true_and] at h
        walk_at "R"
        refine W_ListComp (cl := [(Str.ofString "opened_so", L + 1)]) (by kernel_rfl) (by kernel_rfl) ?_
        walk_at "R"
        refine W_iter_list (by assumption) R.hh (h2.imp fun _ => IsLst.w) ?_
        intro it s5 I5 H5
        refine W_compG (by kernel_rfl) I5 (fun j f' N' vs' => f = f' ∧ All2 IsB ((kids.take j).map (Mine.hn true)) vs' ∧ N' = (L, HasVars [("plan", .ref a)]) :: (L + 1, IsCellO (.bool true)) :: N) (by walk_at "arr") (Le.refl _) ⟨rfl, .nil, rfl⟩ ?_ ?_
        · rintro Q1 C acc j f' N' vs' l s6 v hn hj hl ⟨rfl, g1, rfl⟩ hvj H6
          obtain ⟨q, hq, hvq⟩ := h3.get (i := j) (by simpa using hvj)
          walk_at "R"
          refine ih n rfl (R.le (by lia)) (by assumption) hvq (ho.2.2.1 q (List.mem_of_getElem? hq)) fun s7 H7 => ?_
          refine hn _ _ ⟨f, _, _, Le.refl _, ⟨rfl, ?_, rfl⟩, by have := g1.length; rw [List.length_map, List.length_take] at this; have := ho.2.1; lia, by walk_at "arr"⟩
          rw [List.take_succ, hq, List.map_append]
          exact g1.snoc rfl
        · rintro acc f' N' vs' s6 hl ⟨rfl, g1, rfl⟩ H6
          rw [List.take_of_length_le (by rw [h3.length]; simp)] at g1
          refine W_inB (St.mem (by assumption) (by walk_at "mem")) g1 ?_
          rw [← hnL_any]
          exact h _ (by walk_at "arr")
noncomputable def KdsP (prog : Program) (w : World) (B : Shared) (op : Bool) (n : Nat) : Prop := n ≤ 5 → ∀ {A : Around} {f : Heap} {N : Led} {s : Shared} {p : Plan} {v : Value} {Q : Value → Shared → Prop}, Room A (n + 3) → St B f N s → IsPlan f n p v → OkPlan n p →
  (∀ b us f' s', Le f f' → At f' b (IsLst us) → All2 IsKs (kds op p) us → St B f' N s' → Q (.ref b) s') → Wp prog w A (call (.ref 675) [v, .bool op]) Q s
theorem kinds_ok (X : Base (K0 P) B) (op : Bool) : ∀ n, KdsP prog w B op n := by
  refine byN fun n ih => ?_
  intro hn5 A f N s p v Q hA H hv ho h
  refine W_enterC [("plan", v), ("opened_so", .bool op)] [("plan", v)] [("opened_so", .bool op)] (fun L => [(L + 1, IsCellO (.bool op))]) hA (fn_law_kinds X) X.lim H (body := fBody (st 102)) rfl rfl (by kernel_rfl) (fun L => by kernel_rfl) (by kernel_rfl) (by kernel_rfl) (fun L => by kernel_rfl) ["opened_so"] (fun L => by kernel_rfl) (by decide +kernel) ?_
  intro L s1 H1 R
  have kc1 : (callEnvC F675 L 675).cells.lookup (Str.ofString "opened_so") = some (L + 1) := by kernel_rfl
  replace H1 : St B f ((L, HasVars [("plan", v)]) :: (L + 1, IsCellO (.bool op)) :: N) s1 := H1
  have hn3 : 1 ≤ 3 ^ n := Nat.one_le_pow _ _ (by decide)
  have fin : ∀ b us s', St B f ((b, IsLst us) :: N) s' → All2 IsKs (kds op p) us → Q (.ref b) s' := by
    intro b us s' H2 hus
    obtain ⟨f2, le2, H3, k3⟩ := H2.freeze
    exact h b us f2 s' le2 k3 hus H3
  conv in fBody _ => whnf
  cases p with
  | nothing =>
    rw [IsPlan_nothing] at hv
    obtain ⟨a, t, rfl, h1⟩ := hv
    walk_at "R"
    rw [if_pos (by decide +kernel)]
    walk_at "R"
    exact fin _ [] _ (by walk_at "arr") (by rw [kds]; exact .nil)
  | name =>
    have hv0 := hv
    rw [IsPlan_name] at hv
    obtain ⟨a, t, rfl, h1⟩ := hv
    walk_at "R"
    rw [if_neg (by decide +kernel)]
    walk_at "R"
    refine lopen_ok X (R.le (by lia)) (by assumption) ho hv0 fun s4 H4 => ?_
    rw [show Plan.name.opens op = false from rfl]
    walk_at "R"
    refine W_IfExp ?_
    walk_at "R"
    rw [if_pos (by decide +kernel)]
    walk_at "R"
    exact fin _ _ _ (by walk_at "arr") (by rw [kds]; exact .cons ⟨_, rfl⟩ .nil)
  | row k its hd =>
    have hv0 := hv
    have hok := ho
    rw [OkPlan_row] at hok
    rw [IsPlan_row] at hv
    obtain ⟨a, t, iv, hv, rfl, h1, ⟨li, vs, rfl, h2, h3⟩, h4⟩ := hv
    walk_at "R"
    rw [kd_nothing]
    walk_at "R"
    refine lopen_ok X (R.le (by lia)) (by assumption) ho hv0 fun s4 H4 => ?_
    rw [show (Plan.row k its hd).opens op = false from rfl]
    walk_at "R"
    refine W_IfExp ?_
    walk_at "R"
    rw [if_neg (by rw [hs_np]; have := hok.1; cases k <;> first | (cases this; done) | decide)]
    walk_at "R"
    exact fin _ _ _ (by walk_at "arr") (by rw [kds]; exact .cons ⟨_, rfl⟩ .nil)
  | tree k kids hd =>
    cases n with
    | zero => exact hv.elim
    | succ n =>
    have hv0 := hv
    obtain ⟨a, t, iv, hv, rfl, h1, ⟨li, vs, rfl, h2, h3⟩, h4⟩ := hv
    walk_at "R"
    rw [kd_nothing]
    walk_at "R"
    refine lopen_ok X (R.le (by lia)) (by assumption) ho hv0 fun s4 H4 => ?_
    rw [show (Plan.tree k kids hd).opens op = op from rfl]
    cases op with
    | false =>
      walk_at "R"
      refine W_IfExp ?_
      walk_at "R"
      rw [hs_np]
      have hk1 := ho.1
      by_cases hpl : k = .pl
      · subst hpl
        rw [if_pos (by rfl)]
        walk_at "R"
        exact fin _ _ _ (by walk_at "arr") (by rw [kds_tree, if_neg Bool.false_ne_true]; exact .cons ⟨_, rfl⟩ .nil)
      · rw [if_neg (by cases k <;> first | exact absurd rfl hpl | decide)]
        walk_at "R"
        exact fin _ _ _ (by walk_at "arr") (by rw [kds_tree, if_neg Bool.false_ne_true]; refine .cons ⟨t, ?_⟩ .nil; cases k <;> first | exact absurd rfl hpl | rfl)
    | true =>
      walk_at "R"
      refine W_ListComp2 (cl := [(Str.ofString "opened_so", L + 1)]) (by kernel_rfl) (by kernel_rfl) ?_
      walk_at "R"
      refine W_iter_list (by assumption) R.hh (h2.imp fun _ => IsLst.w) ?_
      intro it s5 I5 H5
      refine W_comp2 (by kernel_rfl) I5 (fun j f' N' vs' => All2 IsKs (kdsL true (kids.take j)) vs' ∧ N' = (L, HasVars [("plan", .ref a)]) :: (L + 1, IsCellO (.bool true)) :: N) (by walk_at "arr") (Le.refl _) ⟨by rw [List.take_zero, kdsL]; exact .nil, rfl⟩ (fun C x => rfl) ?_ ?_
      · rintro C acc j f' N' vs' l s6 v hj hl ⟨g1, rfl⟩ hvj H6
        obtain ⟨q, hq, hvq⟩ := h3.get (i := j) (by simpa using hvj)
        have hoq := ho.2.2.1 q (List.mem_of_getElem? hq)
        have hlq := kds_le true n q hoq
        have hsm : 3 ^ (n + 1) < 40000 := Nat.lt_of_le_of_lt (Nat.pow_le_pow_right (by decide) (show n + 1 ≤ 5 by lia)) (by decide)
        have hlj : vs'.length ≤ 3 ^ (n + 1) := by
          rw [← g1.length]
          have a1 := kdsL_le true (3 ^ n) (kids.take j) fun p hp => kds_le true n p (ho.2.2.1 p (List.mem_of_mem_take hp))
          have a2 : (kids.take j).length * 3 ^ n ≤ 3 * 3 ^ n := Nat.mul_le_mul_right _ (by rw [List.length_take]; have := ho.2.1; lia)
          rw [Nat.pow_succ 3 n, Nat.mul_comm (3 ^ n) 3]
          lia
        walk_at "R"
        refine ih n rfl (by lia) (R.le (by lia)) (by assumption) (hvq.mono hl) hoq fun b us f2 s7 le2 hb hus H7 => ?_
        refine W_iter_list (by assumption) R.hh (hb.imp fun _ => IsLst.w) ?_
        intro it2 s8 I8 H8
        refine inner2 I8 (fun i2 us2 => us2 = vs' ++ us.take i2) (show St B f2 ((C, HasVars (("one", v) :: l)) :: (acc, IsLst vs') :: (it2, ItList b 0) :: (it, ItList li (j + 1)) :: (L, HasVars [("plan", .ref a)]) :: (L + 1, IsCellO (.bool true)) :: N) s8 by walk_at "arr") (Le.refl _) (by simp) ?_ ?_
        · rintro i2 l2 us2 s9 v2 hi2 rfl hv2 H9
          walk_at "R"
          refine ⟨_, ?_, ?_, by walk_at "arr"⟩
          · have hv2' : us[i2]? = some v2 := by simpa using hv2
            rw [List.take_succ, hv2', List.append_assoc]; rfl
          · rw [List.length_append, List.length_take]
            have := hus.length
            have : 3 ^ n ≤ 3 ^ (n + 1) := Nat.pow_le_pow_right (by decide) (by lia)
            have : 3 ^ (n + 1) < 40000 := hsm
            lia
        · rintro l2 us2 s9 rfl H9
          refine ⟨f2, _, l2, _, hl.trans le2, ⟨?_, rfl⟩, H9⟩
          rw [List.take_succ, hq, kdsL_app, show (some q).toList = [q] from rfl, kdsL_one]
          rw [show List.take us.toArray.size us = us from List.take_of_length_le (by simp)]
          exact g1.app hus
      · rintro acc f' N' vs' s6 hl ⟨g1, rfl⟩ H6
        rw [List.take_of_length_le (by rw [h3.length]; simp)] at g1
        obtain ⟨f2, le2, H7, k7⟩ := H6.freeze
        exact h acc vs' f2 _ (hl.trans le2) k7 (by rw [kds_tree, if_pos rfl]; exact g1) (by walk_at "arr")
end
noncomputable def Kd.isCh : Kd → Bool
  | .ch => true
  | _ => false
noncomputable def Kd.isLg : Kd → Bool
  | .lg => true
  | _ => false
theorem kd_ne_ch (k : Kd) : (k.s != Str.ofString "character") = !k.isCh := by cases k <;> decide +kernel
theorem kd_eq_ch (k : Kd) : (k.s == Str.ofString "character") = k.isCh := by cases k <;> decide +kernel
theorem kd_eq_lg (k : Kd) : (k.s == Str.ofString "logical") = k.isLg := by cases k <;> decide +kernel
section
variable {prog : Program} {w : World} {P : Params} {B : Shared} {f : Heap} {N : Led} {s : Shared} {A : Around} {env : Env}
theorem W_nesk {k k' : Kd} {t u : Tok} {Q : Value → Shared → Prop} (h : Q (.bool (k.s != k'.s)) s) : Wp prog w A (compareOp .NotEq (.str k.s t) (.str k'.s u)) Q s := W_nes h
theorem raised_ok (X : Base (K0 P) B) (hA : Room A 1) {c : Addr} {k kd : Kd} {y : It} {iv : Value} {t u : Tok} (H : St B f N s) (hc : At f c (IsLst [.str k.s t, iv])) (hy : IsIt y iv) (hok : OkIt k y) (hk : k.atomic = true) (hkd : kd.atomic = true) (hr : rank k ≤ rank kd) {Q : Value → Shared → Prop}
    (h : ∀ v s', IsIt (y.raise k kd) v → St B f N s' → Q v s') : Wp prog w A (call (.ref 692) [.ref c, .str kd.s u]) Q s := by
  refine W_enter [("kind", .str kd.s u), ("item", .ref c)] hA (fn_law_raised X) X.lim H (body := fBody (st 105)) rfl (.of_eq rfl) (by kernel_rfl) ?_
  intro L s1 H1 R
  conv in fBody _ => whnf
  have e1 := kd_ne_ch kd
  have e2 := kd_eq_ch k
  have e3 := kd_eq_lg k
  cases y with
  | no =>
    cases hy
    walk_at "R"
    rw [if_pos (by decide)]
    walk_at "R"
    exact h _ _ rfl (by walk_at "arr")
  | s x =>
    have hkc : k = .ch := by cases k <;> first | rfl | exact hok.elim
    subst hkc
    have hkd2 : kd = .ch := by cases kd <;> first | rfl | (cases hkd; done) | exact absurd hr (by decide)
    subst hkd2
    obtain ⟨tk, rfl⟩ := hy
    walk_at "R"
    rw [if_neg (by simp)]
    walk_at "R"
    rw [e1, show Kd.ch.isCh = true from rfl]
    walk_at "R"
    rw [e2, show Kd.ch.isCh = true from rfl]
    walk_at "R"
    exact h _ _ ⟨_, rfl⟩ (by walk_at "arr")
  | i n =>
    obtain ⟨tk, rfl⟩ := hy
    have hk2 : k = .lg ∨ k = .it := by cases k <;> first | exact .inl rfl | exact .inr rfl | exact hok.elim
    by_cases hkd2 : kd = .ch
    · subst hkd2
      walk_at "R"
      rw [if_neg (by simp)]
      walk_at "R"
      rw [e1, show Kd.ch.isCh = true from rfl]
      walk_at "R"
      rcases hk2 with rfl | rfl
      · rw [e2, show Kd.lg.isCh = false from rfl]
        walk_at "R"
        rw [e3, show Kd.lg.isLg = true from rfl]
        walk_at "R"
        rcases hok with rfl | rfl
        · walk_at "R"
          exact h _ _ ⟨_, rfl⟩ (by walk_at "arr")
        · walk_at "R"
          exact h _ _ ⟨_, rfl⟩ (by walk_at "arr")
      · rw [e2, show Kd.it.isCh = false from rfl]
        walk_at "R"
        rw [e3, show Kd.it.isLg = false from rfl]
        walk_at "R"
        have hn : n = ((n.toNat : Nat) : Int) := by rcases hok with rfl | rfl <;> rfl
        have hn2 : n.toNat < 100000 := by rcases hok with rfl | rfl <;> decide
        rw [hn]
        refine W_stri (by assumption) hn2 fun t3 s3 H3 => ?_
        refine h _ _ ?_ (by walk_at "arr")
        show ∃ t, _ = Value.str (nt n.toNat) t
        exact ⟨_, rfl⟩
    · have he : (kd.s != Str.ofString "character") = true := by rw [e1]; cases kd <;> first | rfl | exact absurd rfl hkd2
      have hrs : (It.i n).raise k kd = .i n := by rcases hk2 with rfl | rfl <;> (cases kd <;> first | rfl | exact absurd rfl hkd2)
      walk_at "R"
      rw [if_neg (by simp)]
      walk_at "R"
      rw [he]
      walk_at "R"
      exact h _ _ (by rw [hrs]; exact ⟨_, rfl⟩) (by walk_at "arr")
end
noncomputable def IsNt (k : Nat) (v : Value) : Prop := ∃ t, v = .int (k : Nat) t
theorem txs_strs {xs : List Str} {vs : List Value} (h : All2 IsTx xs vs) : StrsAre vs xs := by
  induction h with
  | nil => exact .nil
  | cons h _ ih => obtain ⟨t, rfl⟩ := h; exact .cons _ _ ih
theorem idxOf_spec (l : List Nat) (k : Nat) (hk : k ∈ l) : ∃ h : l.idxOf k < l.length, l[l.idxOf k] = k ∧ ∀ m (hm : m < l.length), m < l.idxOf k → l[m] ≠ k := by
  have h := List.idxOf_lt_length_of_mem hk
  refine ⟨h, by simp, fun m hm hlt q => ?_⟩
  have := List.not_of_lt_findIdx (xs := l) (p := (· == k)) (i := m) hlt
  simp [q] at this
section
variable {prog : Program} {w : World} {P : Params} {B : Shared} {f : Heap} {N : Led} {s : Shared} {A : Around} {env : Env}
theorem W_lindexN {l : Addr} {vs : List Value} {ks : List Nat} {k : Nat} {u : Tok} {Q : Value → Shared → Prop} (H : St B f N s) (hl : At s.heap l (IsLst vs)) (hi : All2 IsNt ks vs) (hm : k ∈ ks) (hs : ks.length < 100000) (h : ∀ t s', St B f N s' → Q (.int (ks.idxOf k : Nat) t) s') :
    Wp prog w A (call (.builtin "list.index") [.ref l, .int k u]) Q s := by
  obtain ⟨o, ho, n, rfl⟩ := hl
  obtain ⟨hlt, h1, h2⟩ := idxOf_spec ks k hm
  have hlen := hi.length
  have hv : ∀ y ∈ vs, ∃ i t, y = .int (i : Nat) t := by
    intro y hy
    obtain ⟨j, hj, rfl⟩ := List.getElem_of_mem hy
    obtain ⟨t, e⟩ := hi.idx j (by lia) hj
    exact ⟨_, t, e⟩
  refine ⟨call_meets PySem.F.slot_list_index ⟨_, ho, rfl⟩ PySem.F.entry_list_index (PySem.F.args_list_index_2 _ _) (MeetsSeq.list_index l vs.toArray n (.int k u) (PyProof.Rows.isInt k) (fun y hy => ?_) (ks.idxOf k) (by simpa [hlen] using hlt) (by lia) ?_ ?_) ⟨ho, h _ _ (H.tok _)⟩⟩
  · obtain ⟨i, t, rfl⟩ := hv y (by simpa using hy)
    exact MeetsSeq.EqGives.int i k t u
  · obtain ⟨t, e⟩ := hi.idx (ks.idxOf k) hlt (by lia)
    simp [e, PyProof.Rows.isInt, h1]
  · intro m hm1 hm2
    have hm3 : m < vs.length := by simpa using hm1
    obtain ⟨t, e⟩ := hi.idx m (by lia) hm3
    have := h2 m (by lia) hm2
    simp [e, PyProof.Rows.isInt]
    lia
theorem W_neg1 {x : Expr} {pos : Pos} {Q : Value → Shared → Prop} (H : St B f N s) {k p} (hx : x = .Constant (.int 1) k p) (h : ∀ t s', St B f N s' → Q (.int (-1) t) s') : Wp prog w A (eval (.UnaryOp .USub x pos) env) Q s := by
  subst hx
  exact ⟨wpAny_UnaryOp (r_int H fun t s' H' => PyProof.Rows.neg_int (h _ _ (H'.tok _)))⟩
theorem W_last {value slice : Expr} {a : Addr} {vs : List Value} {t : Tok} {x : Value} {Q : Value → Shared → Prop} (ha : At s.heap a (IsLst vs)) (hx : vs.getLast? = some x) (hn : vs.length < 100000) (h : Q x s)
    (hs : subscripted slice false (.ref a) (.int (-1) t) = operate [.ref a, .int (-1) t] (getItem (.ref a) (.int (-1) t)) := by with_unfolding_all rfl) : Wp prog w A (subscriptTail value slice (.ref a) (.int (-1) t)) Q s := by
  have hne : 0 < vs.length := by cases vs with | nil => cases hx | cons => simp
  refine W_itemN ha.lst (by decide) (by simp; lia) (by decide) ?_ h hs
  rw [List.getLast?_eq_getElem?] at hx
  simp only [List.size_toArray, List.getElem?_toArray]
  rw [show (-1 + (vs.length : Int)).toNat = vs.length - 1 by lia]
  exact hx
theorem lnames_ok (X : Base (K0 P) B) (hA : Room A 3) {fa : Addr} {us : List Value} {rows : List Row} (H : St B f N s) (hfa : At f fa (IsLst us)) (hrows : All2 (IsRow f) rows us) (hn : rows.length ≤ 1000)
    (hok : ∀ r ∈ rows, OkNm r.own ∧ (txt r.base).length ≤ 1000 ∧ (r.base ≠ nm0 → r.around ≠ []) ∧ r.around.length ≤ 1000) {Q : Value → Shared → Prop}
    (h : ∀ b nus s', All2 IsNm (lawNames rows) nus → St B f ((b, IsLst nus) :: N) s' → Q (.ref b) s') : Wp prog w A (call (.ref 685) [.ref fa]) Q s := by
  refine W_enterC [("found", .ref fa)] [] [("found", .ref fa)] (fun L => [(L + 2, IsCellN), (L + 1, IsCellO (.ref fa))]) hA (fn_law_names X) X.lim H (body := fBody (st 104)) rfl rfl (by kernel_rfl) (fun L => by kernel_rfl) (by kernel_rfl) (by kernel_rfl) (fun L => by kernel_rfl) ["around", "found"] (fun L => by kernel_rfl) (by decide +kernel) ?_
  intro L s1 H1 R
  have kc1 : (callEnvC F685 L 685).cells.lookup (Str.ofString "found") = some (L + 1) := by kernel_rfl
  have kc2 : (callEnvC F685 L 685).cells.lookup (Str.ofString "around") = some (L + 2) := by kernel_rfl
  replace H1 : St B f ((L, HasVars []) :: (L + 2, IsCellN) :: (L + 1, IsCellO (.ref fa)) :: N) s1 := H1
  have hlen := hrows.length
  conv in fBody _ => whnf
  walk_at "R"
  rename_i na _ _ _ _
  refine W_lenL (by assumption) (St.at (by assumption) hfa) (by lia) fun t s2 H2 => ?_
  walk_at "R"
  refine W_iter_range (by walk_at "pull") R.hh (by lia) ?_
  intro it s3 I3 H3
  have hlz : (lawNames rows).length = rows.length := by simp [lawNames]
  refine W_loopG I3 (fun j f' N' => f = f' ∧ ∃ nus, All2 IsNm ((lawNames rows).take j) nus ∧ N' = (L, HasVars [("names", .ref na)]) :: (L + 2, IsCellN) :: (L + 1, IsCellO (.ref fa)) :: (na, IsLst nus) :: N) (by walk_at "arr") (Le.refl _) ⟨rfl, [], by rw [List.take_zero]; exact .nil, rfl⟩ ?_ ?_
  · rintro Q1 i f' N' s4 v hn hi hl ⟨rfl, nus, g1, rfl⟩ ⟨tv, rfl⟩ H4
    have hi' : i < rows.length := by lia
    obtain ⟨rv0, hrv1, hrv2⟩ := hrows.get' (List.getElem?_eq_getElem hi')
    obtain ⟨a, c, ov, bv, rv, iv, tt, rfl, r1, r2, r3, r4, r5, r6⟩ := hrv2
    obtain ⟨hok1, hok2, hok3, hok4⟩ := hok _ (List.getElem_mem hi')
    have hg1 := g1.length
    rw [List.length_take] at hg1
    have hstep : (lawNames rows).take (i + 1) = (lawNames rows).take i ++ [lawName rows rows[i] i] := by
      rw [List.take_succ]
      congr 1
      simp [lawNames, hi']
    have fin : ∀ nv s5 Pc, IsNm (lawName rows rows[i] i) nv → (∀ o, Pc o → IsCellN o) → St B f ((L + 2, Pc) :: (it, ItRange us.length (i + 1)) :: (L, HasVars [("names", .ref na)]) :: (L + 1, IsCellO (.ref fa)) :: (na, IsLst (nus ++ [nv])) :: N) s5 → ∃ f'' N'', Le f f'' ∧ (f = f'' ∧ ∃ nus, All2 IsNm ((lawNames rows).take (i + 1)) nus ∧ N'' = (L, HasVars [("names", .ref na)]) :: (L + 2, IsCellN) :: (L + 1, IsCellO (.ref fa)) :: (na, IsLst nus) :: N) ∧ St B f'' ((it, ItRange us.length (i + 1)) :: N'') s5 := by
      intro nv s5 Pc hnv hPc H5
      refine ⟨f, _, Le.refl _, ⟨rfl, nus ++ [nv], by rw [hstep]; exact g1.snoc hnv, rfl⟩, St.sel (H5.imp hPc) (by walk_at "sel")⟩
    walk_at "R"
    refine W_itemL (St.at (by assumption) hfa) hrv1 (by lia) ?_
    refine W_unpackL (by assumption) R.hh (St.at (by assumption) r1) rfl rfl fun s5 H5 => ?_
    refine Ao_cons ?_
    walk_at "R"
    refine Ao_cons ?_
    walk_at "R"
    refine Ao_cons ?_
    walk_at "R"
    refine Ao_cons ?_
    walk_at "R"
    refine Ao_nil ?_
    walk_at "R"
    refine nm_ne r3 ?_
    walk_at "R"
    cases hq1 : (rows[i].own != some (Str.ofString ""))
    · have q1 := nq3 hq1
      walk_at "R"
      refine nm_eq r4 ?_
      walk_at "R"
      cases hq2 : (rows[i].base == some (Str.ofString ""))
      · have q2 := nq2 hq2
        obtain ⟨ra, rvs, rfl, ra1, ra2⟩ := r5
        walk_at "R"
        have hne := hok3 q2
        obtain ⟨last, hlast⟩ : ∃ x, rows[i].around.getLast? = some x := ⟨_, List.getLast?_eq_some_getLast hne⟩
        have hrl := ra2.length
        obtain ⟨lt, hlt⟩ : ∃ t, rvs.getLast? = some (.str last t) := by
          rw [List.getLast?_eq_getElem?] at hlast ⊢
          obtain ⟨v, hv1, t, rfl⟩ := ra2.get' hlast
          exact ⟨t, by rw [← hrl]; exact hv1⟩
        have hgl : rows[i].around.getLast?.getD e0 = last := by rw [hlast]; rfl
        have hlmem : last ∈ rows[i].around := List.mem_of_getLast? hlast
        refine W_Assign_ListComp (cl := [(Str.ofString "found", L + 1), (Str.ofString "around", L + 2)]) (by kernel_rfl) (by kernel_rfl) ?_
        walk_at "R"
        refine W_lenL (by assumption) (St.at (by assumption) hfa) (by lia) fun t2 s6 H6 => ?_
        walk_at "R"
        refine W_iter_range (by walk_at "pull") R.hh (by lia) ?_
        intro it2 s7 I7 H7
        refine W_compA (by kernel_rfl) I7 (fun j f' N' vs => f = f' ∧ All2 IsNt ((List.range j).filter fun k => (rows[k]?).any fun q => q.around.any (· == last)) vs ∧ N' = (L, HasVars [("base", bv), ("spot", .int (i : Nat) tv), ("names", .ref na)]) :: (L + 2, IsCellO (.ref ra)) :: (L + 1, IsCellO (.ref fa)) :: (it, ItRange us.length (i + 1)) :: (na, IsLst nus) :: N) (St.arrv L (by assumption) (by walk_at "ext") (by walk_at "sel") (by walk_at "amp")) (Le.refl f) ⟨rfl, .nil, rfl⟩ ?_ (by kernel_rfl) ?_
        · rintro C acc j f' N' vs l s8 v hj hl ⟨rfl, k1, rfl⟩ ⟨tk, rfl⟩ H8
          have hj' : j < rows.length := by lia
          obtain ⟨qv, hqv1, a', c', ov', bv', rv', iv', tt', rfl, x1, x2, x3, x4, ⟨ra', rvs', rfl, y1, y2⟩, x6⟩ := hrows.get' (List.getElem?_eq_getElem hj')
          walk_at "R"
          refine W_neg1 (by assumption) rfl fun t3 s9 H9 => ?_
          refine W_last (St.at (by assumption) ra1) hlt (by lia) ?_
          walk_at "R"
          refine W_itemL (St.at (by assumption) hfa) hqv1 (by lia) ?_
          walk_at "R"
          refine W_inL (St.at (by assumption) y1) (txs_strs y2) ?_
          walk_at "R"
          have hk1 := k1.length
          have hfl : ((List.range j).filter fun k => (rows[k]?).any fun q => q.around.any (· == last)).length ≤ j := by
            have := List.length_filter_le (fun k => (rows[k]?).any fun q => q.around.any (· == last)) (List.range j)
            rwa [List.length_range] at this
          have hP : (rows[j]?).any (fun q => q.around.any (· == last)) = rows[j].around.any (· == last) := by rw [List.getElem?_eq_getElem hj']; rfl
          cases hb : rows[j].around.any (· == last) with
          | true =>
            walk_at "R"
            refine ⟨f, _, _, Le.refl _, ⟨rfl, ?_, rfl⟩, by lia, by walk_at "arr"⟩
            rw [List.range_succ, List.filter_append, List.filter_cons_of_pos (by rw [hP, hb])]
            exact k1.snoc ⟨_, rfl⟩
          | false =>
            rw [if_neg Bool.false_ne_true]
            refine ⟨f, _, _, Le.refl _, ⟨rfl, ?_, rfl⟩, by walk_at "arr"⟩
            rw [List.range_succ, List.filter_append, List.filter_cons_of_neg (by rw [hP, hb]; exact Bool.false_ne_true)]
            rw [List.filter_nil, List.append_nil]
            exact k1
        · rintro acc f' N' vs s8 hl ⟨rfl, k1, rfl⟩ H8
          refine ⟨_, _, Sel.cons (by walk_at "ext") Sel.refl, ?_⟩
          intro s9 H9
          have hbes : (List.range us.length).filter (fun k => (rows[k]?).any fun q => q.around.any (· == last)) = (List.range rows.length).filter (fun k => (rows[k]?).any fun q => q.around.any (· == rows[i].around.getLast?.getD e0)) := by rw [hgl, hlen]
          rw [hbes] at k1
          have hmem : i ∈ (List.range rows.length).filter (fun k => (rows[k]?).any fun q => q.around.any (· == rows[i].around.getLast?.getD e0)) := by
            rw [List.mem_filter]
            refine ⟨List.mem_range.mpr hi', ?_⟩
            rw [List.getElem?_eq_getElem hi', hgl]
            show rows[i].around.any (· == last) = true
            exact List.any_eq_true.mpr ⟨last, hlmem, by simp⟩
          have hname : lawName rows rows[i] i = if ((List.range rows.length).filter (fun k => (rows[k]?).any fun q => q.around.any (· == rows[i].around.getLast?.getD e0))).length = 1 then rows[i].base else some (txt rows[i].base ++ nt (((List.range rows.length).filter (fun k => (rows[k]?).any fun q => q.around.any (· == rows[i].around.getLast?.getD e0))).idxOf i + 1)) := by
            rw [lawName, if_neg (fun e => e q1), if_neg q2]
          have hbl : ((List.range rows.length).filter (fun k => (rows[k]?).any fun q => q.around.any (· == rows[i].around.getLast?.getD e0))).length ≤ rows.length := by
            have := List.length_filter_le (fun k => (rows[k]?).any fun q => q.around.any (· == rows[i].around.getLast?.getD e0)) (List.range rows.length)
            rwa [List.length_range] at this
          generalize (List.range rows.length).filter (fun k => (rows[k]?).any fun q => q.around.any (· == rows[i].around.getLast?.getD e0)) = bs at *
          have hvl := k1.length
          walk_at "R"
          refine W_na (by walk_at "kind") (by assumption) (by walk_at "mem") (by walk_at "mp") r4 fun t4 s10 H10 => ?_
          walk_at "R"
          refine W_IfExp ?_
          walk_at "R"
          refine W_lenL (by assumption) (St.mem (by assumption) (by walk_at "mem")) (by lia) fun t5 s11 H11 => ?_
          walk_at "R"
          by_cases hone : bs.length = 1
          · rw [if_pos (by simp; lia)]
            walk_at "R"
            refine W_append (by walk_at "pull") (by lia) fun s12 H12 => ?_
            walk_at "R"
            refine fin bv _ (IsCellO (.ref ra)) ?_ (fun o h => ⟨_, h⟩) (St.arrv L (by assumption) (by walk_at "ext") (by walk_at "sel") (by walk_at "amp"))
            rw [hname, if_pos hone]
            exact r4
          · rw [if_neg (by simp; lia)]
            walk_at "R"
            refine W_lindexN (by assumption) (St.mem (by assumption) (by walk_at "mem")) k1 hmem (by lia) fun t6 s12 H12 => ?_
            walk_at "R"
            have hix := List.idxOf_lt_length_of_mem hmem
            refine W_stri (n := bs.idxOf i + 1) (by assumption) (by lia) fun t7 s13 H13 => ?_
            have hnl := nt_length (n := bs.idxOf i + 1) (by lia)
            refine W_adds (by assumption) (by lia) fun t8 s14 H14 => ?_
            walk_at "R"
            refine W_append (by walk_at "pull") (by lia) fun s15 H15 => ?_
            walk_at "R"
            refine fin _ _ (IsCellO (.ref ra)) ?_ (fun o h => ⟨_, h⟩) (St.arrv L (by assumption) (by walk_at "ext") (by walk_at "sel") (by walk_at "amp"))
            rw [hname, if_neg hone]
            exact ⟨_, rfl⟩
      · have q2 := nq1 hq2
        walk_at "R"
        refine W_append (by walk_at "pull") (by lia) fun s6 H6 => ?_
        walk_at "R"
        refine fin _ _ (IsCellO rv) ?_ (fun o h => ⟨_, h⟩) (St.arrv L (by assumption) (by walk_at "ext") (by walk_at "sel") (by walk_at "amp"))
        rw [lawName, if_neg (fun e => e q1), if_pos q2]
        exact ⟨_, rfl⟩
    · have q1 := nq4 hq1
      walk_at "R"
      refine lbehind_ok X (R.le (by lia)) (by assumption) r4 r3 (by have := hok1.len; lia) fun v2 s6 hv2 H6 => ?_
      walk_at "R"
      refine W_append (by walk_at "pull") (by lia) fun s7 H7 => ?_
      walk_at "R"
      refine fin v2 _ (IsCellO rv) ?_ (fun o h => ⟨_, h⟩) (St.arrv L (by assumption) (by walk_at "ext") (by walk_at "sel") (by walk_at "amp"))
      rw [lawName, if_pos q1]
      exact hv2
  · rintro f' N' s4 hl ⟨rfl, nus, g1, rfl⟩ H4
    rw [List.take_of_length_le (by rw [hlz]; lia)] at g1
    walk_at "R"
    exact h na nus _ g1 (by walk_at "arr")
end
structure Agree (op : Bool) (xs : List (Nm × Plan)) : Prop where
  e0 : allKds op xs = [] → pt op xs = []
  e1 : pt op xs = [] → allKds op xs = []
  wid : ∀ M, M ∈ (allKds op xs).map lrank → (∀ a ∈ (allKds op xs).map lrank, a ≤ M) → ofLrank M = kdOf (pt op xs)
  len : total (pt op xs) = (allRows op xs 0 0).length
  its : (kdOf (pt op xs)).atomic = true → rits (kdOf (pt op xs)) (pt op xs) = (allRows op xs 0 0).map fun r => r.it.raise r.kd (kdOf (pt op xs))
  rowok : (kdOf (pt op xs)).atomic = true → ∀ r ∈ allRows op xs 0 0, r.kd.atomic = true ∧ OkIt r.kd r.it ∧ rank r.kd ≤ rank (kdOf (pt op xs))
  nameok : ∀ r ∈ allRows op xs 0 0, OkNm r.own ∧ (txt r.base).length ≤ 1000 ∧ (r.base ≠ nm0 → r.around ≠ []) ∧ r.around.length ≤ 1000
  names : anyN op xs = true → (extAll op xs NR0).names = lawNames (allRows op xs 0 0)
  kdok : ∀ k ∈ allKds op xs, k = .lg ∨ k = .it ∨ k = .ch ∨ k = .ls ∨ k = .ex
noncomputable def IsPairP (f : Heap) (x : Nm × Plan) (v : Value) : Prop := ∃ t nv pv, v = .ref t ∧ At f t (IsTupO [nv, pv]) ∧ IsNm x.1 nv ∧ IsPlan f 2 x.2 pv
theorem kd_at3 (k : Kd) : ([Str.ofString "logical", Str.ofString "integer", Str.ofString "character"].any (· == k.s)) = k.atomic := by cases k <;> decide +kernel
theorem it_eq {y : It} {a b : Value} (ha : IsIt y a) (hb : IsIt y b) : ItEq a b := by
  cases y with
  | no => cases ha; cases hb; exact .inl ⟨rfl, rfl⟩
  | i n => obtain ⟨t, rfl⟩ := ha; obtain ⟨u, rfl⟩ := hb; exact .inr (.inl ⟨n, t, u, rfl, rfl⟩)
  | s x => obtain ⟨t, rfl⟩ := ha; obtain ⟨u, rfl⟩ := hb; exact .inr (.inr (.inl ⟨x, t, u, rfl, rfl⟩))
theorem nm_eqv {y : Nm} {a b : Value} (ha : IsNm y a) (hb : IsNm y b) : ItEq a b := by
  cases y with
  | none => cases ha; cases hb; exact .inl ⟨rfl, rfl⟩
  | some x => obtain ⟨t, rfl⟩ := ha; obtain ⟨u, rfl⟩ := hb; exact .inr (.inr (.inl ⟨x, t, u, rfl, rfl⟩))
theorem All2.join {α : Type} {R : α → Value → Prop} (hR : ∀ x a b, R x a → R x b → ItEq a b) : ∀ {xs : List α} {us vs : List Value}, All2 R xs us → All2 R xs vs → All2 ItEq us vs := by
  intro xs us vs h1
  induction h1 generalizing vs with
  | nil => intro h2; cases h2; exact .nil
  | cons a _ ih => intro h2; cases h2 with | cons b q => exact .cons (hR _ _ _ a b) (ih q)
theorem ints_of {ks : List Nat} {vs : List Value} (h : All2 IsNt ks vs) : IntsAre vs (ks.map fun k : Nat => (k : Int)) := by
  induction h with
  | nil => exact .nil
  | cons h _ ih => obtain ⟨t, rfl⟩ := h; exact .cons _ _ ih
theorem order_idx (k : Kd) (h : k = .lg ∨ k = .it ∨ k = .ch ∨ k = .ls ∨ k = .ex) : [Str.ofString "logical", Str.ofString "integer", Str.ofString "character", Str.ofString "list", Str.ofString "expression"].idxOf k.s = lrank k ∧ k.s ∈ [Str.ofString "logical", Str.ofString "integer", Str.ofString "character", Str.ofString "list", Str.ofString "expression"] := by
  rcases h with rfl | rfl | rfl | rfl | rfl <;> decide +kernel
section
variable {prog : Program} {w : World} {P : Params} {B : Shared} {f : Heap} {N : Led} {s : Shared} {A : Around} {env : Env}
theorem IsPairP.mono {f f' : Heap} {x : Nm × Plan} {v : Value} (h : IsPairP f x v) (hl : Le f f') : IsPairP f' x v := by
  obtain ⟨t, nv, pv, h1, h2, h3, h4⟩ := h; exact ⟨t, nv, pv, h1, h2.mono hl, h3, h4.mono hl⟩
theorem W_nei {a b : Int} {t u : Tok} {Q : Value → Shared → Prop} (h : Q (.bool (a != b)) s) : Wp prog w A (compareOp .NotEq (.int a t) (.int b u)) Q s := ⟨PyProof.Rows.ne_int h⟩
theorem due_rest (X : Base (K0 P) B) {L x li fa oa : Addr} {kd : Kd} {tz : Tok} {un b : Bool} {nl : List Nm} {rows : List Row} {us : List Value} {av : Value} {s12 : Shared} {Q : Value → Shared → Prop} (R : Room (A.deeper (callEnvC F697 L 697)) 7) (k5 : At f fa (IsLst us)) (g1 : All2 (IsRow f) rows us) (hrl1 : rows.length ≤ 108) (hnam : b = true → nl = lawNames rows)
    (hnok : ∀ r ∈ rows, OkNm r.own ∧ (txt r.base).length ≤ 1000 ∧ (r.base ≠ nm0 → r.around ≠ []) ∧ r.around.length ≤ 1000) (r1' : IsVec w f x kd (.ref li) av) (r5' : IsAttrs prog w f (if (un && decide (0 < rows.length)) = true then (if b = true then some nl else none) else none) av)
    (H14 : St B f ((L, HasVars [("some", .bool b), ("found", .ref fa), ("wished", .bool un), ("told", .ref x)]) :: (L + 2, IsCellO (.str kd.s tz)) :: (L + 1, IsCellO (.ref oa)) :: N) s12) (fin : ∀ s13, St B f N s13 → Q (.bool true) s13) :
    Wp prog w (A.deeper (callEnvC F697 L 697)) (execs ((fBody (st 106)).drop 9) (callEnvC F697 L 697)) (fun fl s'' => Q (match fl with | .ret v => v | _ => .none) s'') s12 := by
  have hg1 := g1.length
  have hu64 : (A.deeper (callEnvC F697 L 697)).units < cLine := by have := R.u; lia
  conv in List.drop _ _ => whnf
  obtain ⟨dx, tx, b1, b2, z1, z2⟩ := r1'
  cases un with
  | false =>
    rw [Bool.false_and, if_neg Bool.false_ne_true] at r5'
    cases r5'
    walk_at "R"
    rw [if_neg (by decide)]
    walk_at "R"
    exact fin _ (by walk_at "arr")
  | true =>
    cases b with
    | false =>
      have r6 : IsAttrs prog w f none av := by
        rw [if_neg Bool.false_ne_true, ite_self] at r5'
        exact r5'
      cases r6
      walk_at "R"
      rw [if_neg (by decide)]
      walk_at "R"
      exact fin _ (by walk_at "arr")
    | true =>
      by_cases hc : 0 < rows.length
      · rw [Bool.true_and, if_pos (decide_eq_true hc), if_pos rfl] at r5'
        obtain ⟨d, c, iv2, av2, rfl, y1, y2, y3, a9, nus, rfl, y4, y5⟩ := r5'
        walk_at "R"
        rw [if_pos (by simp)]
        walk_at "R"
        refine W_din (by assumption) (St.at (by assumption) y2) y1 true (by simp [valueAt]) fun s13 H15 => ?_
        walk_at "R"
        refine W_ditem (by assumption) (St.at (by assumption) y2) (by simp [valueAt]) fun s14 H16 => ?_
        walk_at "R"
        refine W_items X (by assumption) y3 rfl fun s15 H17 => ?_
        walk_at "R"
        have hnl := y5.length
        have hnm := hnam rfl
        rw [hnm] at y5
        have hlz : (lawNames rows).length = rows.length := by simp [lawNames]
        have hyl := y5.length
        refine W_listof (by assumption) (by walk_at "mem") (St.at (by assumption) y4) (by lia) fun nb s16 H18 => ?_
        walk_at "R"
        refine W_eqL0 (St.at (by assumption) k5) (St.mem (by assumption) (by walk_at "mem")) hu64 ?_
        rw [show us.isEmpty = false by cases us with | nil => rw [List.length_nil] at hg1; lia | cons => rfl]
        walk_at "R"
        refine lnames_ok X (R.le (by lia)) (by assumption) k5 g1 (by lia) hnok fun nb2 nus2 s17 hnus2 H19 => ?_
        refine W_eqLL (St.mem (by assumption) (by walk_at "mem")) (St.mem (by assumption) (by walk_at "mem")) hu64 (All2.join (R := IsNm) (fun _ _ _ => nm_eqv) y5 hnus2) ?_
        exact fin _ (by walk_at "arr")
      · have r6 : IsAttrs prog w f none av := by
          rw [Bool.true_and, if_neg (fun e => hc (of_decide_eq_true e))] at r5'
          exact r5'
        cases r6
        walk_at "R"
        rw [if_neg (by decide)]
        walk_at "R"
        refine W_eqL0 (St.at (by assumption) k5) (St.mem (by assumption) (by walk_at "mem")) hu64 ?_
        rw [show us.isEmpty = true by cases us with | nil => rfl | cons => rw [List.length_cons] at hg1; lia]
        walk_at "R"
        exact fin _ (by walk_at "arr")
theorem due_ok (X : Base (K0 P) B) (hA : Room A 8) (op un : Bool) {xs : List (Nm × Plan)} {pa : Addr} {pus : List Value} {told : Value} (H : St B f N s) (hpa : At f pa (IsLst pus)) (hx : All2 (IsPairP f) xs pus) (ho : OkArgs xs) (ag : Agree op xs)
    (hres : (pt op xs = [] ∧ HasKind w f told .nu) ∨ (pt op xs ≠ [] ∧ IsRes prog w f told (kdOf (pt op xs)) (total (pt op xs)) (rits (kdOf (pt op xs)) (pt op xs)) (resNames op un xs))) {Q : Value → Shared → Prop}
    (h : ∀ f' s', Le f f' → St B f' N s' → Q (.bool true) s') : Wp prog w A (call (.ref 697) [told, .ref pa, .bool op, .bool un]) Q s := by
  refine W_enterC [("told", told), ("pairs", .ref pa), ("opened_so", .bool op), ("wished", .bool un)] [("wished", .bool un), ("opened_so", .bool op), ("pairs", .ref pa), ("told", told)] [] (fun L => [(L + 2, IsCellN), (L + 1, IsCellN)]) hA (fn_law_is_due X) X.lim H (body := fBody (st 106)) rfl rfl (by kernel_rfl) (fun L => by kernel_rfl) (by kernel_rfl) (by kernel_rfl) (fun L => by kernel_rfl) ["widest_kind", "order_of_kinds"] (fun L => by kernel_rfl) (by decide +kernel) ?_
  intro L s1 H1 R
  have kc1 : (callEnvC F697 L 697).cells.lookup (Str.ofString "order_of_kinds") = some (L + 1) := by kernel_rfl
  have kc2 : (callEnvC F697 L 697).cells.lookup (Str.ofString "widest_kind") = some (L + 2) := by kernel_rfl
  replace H1 : St B f ((L, HasVars [("wished", .bool un), ("opened_so", .bool op), ("pairs", .ref pa), ("told", told)]) :: (L + 2, IsCellN) :: (L + 1, IsCellN) :: N) s1 := H1
  have hlen := hx.length
  have ho1 := ho.1
  conv in fBody _ => whnf
  walk_at "R"
  rename_i fa _ _ _ _ ka _ _ _ _ _ _
  refine W_lenL (by assumption) (St.at (by assumption) hpa) (by lia) fun t s2 H2 => ?_
  walk_at "R"
  refine W_iter_range (by walk_at "pull") R.hh (by lia) ?_
  intro it s3 I3 H3
  have hrl : ∀ j, (allRows op (xs.take j) 0 0).length ≤ 108 ∧ (allKds op (xs.take j)).length ≤ 36 := by
    intro j
    have a1 := allRows_le op (xs.take j) 0 0 fun y hy => (ho.2 y (List.mem_of_mem_take hy)).2
    have a2 := allKds_le op (xs.take j) fun y hy => (ho.2 y (List.mem_of_mem_take hy)).2
    rw [List.length_take] at a1 a2
    lia
  refine W_loopG I3 (fun j f' N' => ∃ us' ks', All2 (IsRow f') (allRows op (xs.take j) 0 0) us' ∧ All2 IsKs (allKds op (xs.take j)) ks' ∧ N' = (fa, IsLst us') :: (ka, IsLst ks') :: (L, HasVars [("some", .bool (anyN op (xs.take j))), ("kinds", .ref ka), ("found", .ref fa), ("wished", .bool un), ("opened_so", .bool op), ("pairs", .ref pa), ("told", told)]) :: (L + 2, IsCellN) :: (L + 1, IsCellN) :: N)
    (by walk_at "arr") (Le.refl _) ⟨[], [], .nil, .nil, rfl⟩ ?_ ?_
  · rintro Q1 i f' N' s4 v hn hi hl ⟨us', ks', g1, g2, rfl⟩ ⟨tv, rfl⟩ H4
    have hi' : i < xs.length := by lia
    obtain ⟨pv0, hpv1, tt, nv, pv, rfl, p1, p2, p3⟩ := hx.get' (List.getElem?_eq_getElem hi')
    obtain ⟨hok1, hok2⟩ := ho.2 _ (List.getElem_mem hi')
    obtain ⟨hrl1, hrl2⟩ := hrl i
    have hg1 := g1.length
    have hg2 := g2.length
    have hs1 : allRows op (xs.take (i + 1)) 0 0 = allRows op (xs.take i) 0 0 ++ rowsOne op xs[i] i us'.length := by
      rw [List.take_succ, List.getElem?_eq_getElem hi', allRows_app, show (some xs[i]).toList = [xs[i]] from rfl, allRows_one, Nat.zero_add, Nat.zero_add, List.length_take, Nat.min_eq_left (by lia), hg1]
    have hs2 : allKds op (xs.take (i + 1)) = allKds op (xs.take i) ++ kds op xs[i].2 := by
      rw [List.take_succ, List.getElem?_eq_getElem hi', allKds, List.map_append, kdsL_app, show ((some xs[i]).toList.map (·.2)) = [xs[i].2] from rfl, kdsL_one]; rfl
    have hs3 : anyN op (xs.take (i + 1)) = (anyN op (xs.take i) || (xs[i].1 != nm0) || Mine.hn op xs[i].2) := by
      rw [List.take_succ, List.getElem?_eq_getElem hi', anyN, List.foldl_append]; rfl
    have hk9 := kds_le op 2 xs[i].2 hok2
    have fin : ∀ b f4 us4 ks4 s5, Le f' f4 → b = anyN op (xs.take (i + 1)) → All2 (IsRow f4) (allRows op (xs.take i) 0 0 ++ rowsOne op xs[i] i us'.length) us4 → All2 IsKs (allKds op (xs.take i) ++ kds op xs[i].2) ks4 →
        St B f4 ((it, ItRange pus.length (i + 1)) :: (fa, IsLst us4) :: (ka, IsLst ks4) :: (L, HasVars [("some", .bool b), ("kinds", .ref ka), ("found", .ref fa), ("wished", .bool un), ("opened_so", .bool op), ("pairs", .ref pa), ("told", told)]) :: (L + 2, IsCellN) :: (L + 1, IsCellN) :: N) s5 →
        ∃ f'' N'', Le f f'' ∧ (∃ us' ks', All2 (IsRow f'') (allRows op (xs.take (i + 1)) 0 0) us' ∧ All2 IsKs (allKds op (xs.take (i + 1))) ks' ∧ N'' = (fa, IsLst us') :: (ka, IsLst ks') :: (L, HasVars [("some", .bool (anyN op (xs.take (i + 1)))), ("kinds", .ref ka), ("found", .ref fa), ("wished", .bool un), ("opened_so", .bool op), ("pairs", .ref pa), ("told", told)]) :: (L + 2, IsCellN) :: (L + 1, IsCellN) :: N) ∧ St B f'' ((it, ItRange pus.length (i + 1)) :: N'') s5 := by
      rintro b f4 us4 ks4 s5 hl4 rfl k1 k2 H5
      exact ⟨f4, _, hl.trans hl4, ⟨us4, ks4, by rw [hs1]; exact k1, by rw [hs2]; exact k2, rfl⟩, H5⟩
    generalize hb0 : anyN op (xs.take i) = b0 at *
    walk_at "R"
    refine W_itemL (St.at (by assumption) (hpa.mono hl)) hpv1 (by lia) ?_
    refine W_unpackT (by assumption) R.hh (St.at (by assumption) (p1.mono hl)) rfl rfl fun s5 H5 => ?_
    refine Ao_cons ?_
    walk_at "R"
    refine Ao_cons ?_
    walk_at "R"
    refine Ao_nil ?_
    walk_at "R"
    refine Wp.mono (Q := fun v s' => ∃ f2, Le f' f2 ∧ LstOf f2 IsTx (if xs[i].1 = nm0 then [] else [topOf i]) v ∧ St B f2 ((it, ItRange pus.length (i + 1)) :: (fa, IsLst us') :: (ka, IsLst ks') :: (L, HasVars [("plan", pv), ("tag", nv), ("spot", .int (i : Nat) tv), ("some", .bool b0), ("kinds", .ref ka), ("found", .ref fa), ("wished", .bool un), ("opened_so", .bool op), ("pairs", .ref pa), ("told", told)]) :: (L + 2, IsCellN) :: (L + 1, IsCellN) :: N) s') ?_ ?_
    · refine W_IfExp ?_
      walk_at "R"
      refine nm_eq p2 ?_
      walk_at "R"
      cases hq : (xs[i].1 == some (Str.ofString ""))
      · have q := nq2 hq
        walk_at "R"
        refine W_stri (by assumption) (by lia) fun t7 s6 H6 => ?_
        have hnl := nt_length (n := i) (by lia)
        refine W_adds (by assumption) (by rw [show (Str.ofString "top").length = 3 by decide +kernel]; lia) fun t8 s7 H7 => ?_
        walk_at "R"
        rename_i c _ H8
        obtain ⟨f2, le2, H9, k9⟩ := H8.freeze
        refine ⟨f2, le2, ?_, St.arrv L (by assumption) (by walk_at "ext") (by walk_at "sel") (by walk_at "amp")⟩
        rw [if_neg q]
        exact ⟨c, _, rfl, k9, .cons ⟨_, rfl⟩ .nil⟩
      · have q := nq1 hq
        walk_at "R"
        rename_i c _ H8
        obtain ⟨f2, le2, H9, k9⟩ := H8.freeze
        refine ⟨f2, le2, ?_, St.arrv L (by assumption) (by walk_at "ext") (by walk_at "sel") (by walk_at "amp")⟩
        rw [if_pos q]
        exact ⟨c, _, rfl, k9, .nil⟩
    rintro v s6 ⟨f2, le2, har, H6⟩
    have haq : (if xs[i].1 = nm0 then ([] : List Str) else [topOf i]).length ≤ 1 := by split <;> simp
    walk_at "R"
    refine spread_ok X op 2 (R.le (by lia)) (by walk_at "arr") (p3.mono (hl.trans le2)) hok2 p2 har (by have := hok1.len; lia) (by lia) (by lia) (g1.imp fun _ _ _ h => h.mono le2) fun f3 us3 s7 le3 hus3 H7 => ?_
    rw [hg1] at hus3
    walk_at "R"
    refine kinds_ok X op 2 (by lia) (R.le (by lia)) (by assumption) (p3.mono (hl.trans (le2.trans le3))) hok2 fun kb kus f4 s8 le4 hkb hkus H8 => ?_
    walk_at "R"
    have hkl := hkus.length
    refine W_extend (by walk_at "pull") (St.at (by assumption) hkb) (by lia) fun s9 H9 => ?_
    walk_at "R"
    have hus4 : All2 (IsRow f4) (allRows op (xs.take i) 0 0 ++ rowsOne op xs[i] i us'.length) us3 := hus3.imp fun _ _ _ h => h.mono le4
    have hp4 := p3.mono (hl.trans (le2.trans (le3.trans le4)))
    cases b0 with
    | true =>
      walk_at "R"
      exact fin true f4 us3 _ _ (le2.trans (le3.trans le4)) (by simp [hs3]) hus4 (g2.app hkus) (St.arrv L (by assumption) (by walk_at "ext") (by walk_at "sel") (by walk_at "amp"))
    | false =>
      walk_at "R"
      refine nm_ne p2 ?_
      walk_at "R"
      cases hq : (xs[i].1 != some (Str.ofString ""))
      · walk_at "R"
        refine named_is X op 2 (R.le (by lia)) (by assumption) hp4 hok2 fun s10 H10 => ?_
        walk_at "R"
        exact fin (Mine.hn op xs[i].2) f4 us3 _ _ (le2.trans (le3.trans le4)) (by simp only [hs3, show (xs[i].1 != nm0) = false from hq, Bool.false_or]) hus4 (g2.app hkus) (St.arrv L (by assumption) (by walk_at "ext") (by walk_at "sel") (by walk_at "amp"))
      · walk_at "R"
        exact fin true f4 us3 _ _ (le2.trans (le3.trans le4)) (by simp only [hs3, show (xs[i].1 != nm0) = true from hq, Bool.false_or, Bool.true_or]) hus4 (g2.app hkus) (St.arrv L (by assumption) (by walk_at "ext") (by walk_at "sel") (by walk_at "amp"))
  · rintro f' N' s4 hl ⟨us, ks, g1, g2, rfl⟩ H4
    rw [List.take_of_length_le (by lia)] at g1 g2 H4
    obtain ⟨hrl1, hrl2⟩ := hrl xs.length
    rw [List.take_length] at hrl1 hrl2
    have hg1 := g1.length
    have hg2 := g2.length
    obtain ⟨f2, le2, H5, k5⟩ := (show St B f' ((fa, IsLst us) :: (ka, IsLst ks) :: (L, HasVars [("some", .bool (anyN op xs)), ("kinds", .ref ka), ("found", .ref fa), ("wished", .bool un), ("told", told)]) :: (L + 2, IsCellN) :: (L + 1, IsCellN) :: N) s4 from St.arrv L H4 (by walk_at "ext") (by walk_at "sel") (by walk_at "amp")).freeze
    obtain ⟨f3, le3, H6, k6⟩ := H5.freeze
    replace k5 : At f3 fa (IsLst us) := At.mono k5 le3
    replace k6 : At f3 ka (IsLst ks) := k6
    have hle : Le f f3 := hl.trans (le2.trans le3)
    replace g1 : All2 (IsRow f3) (allRows op xs 0 0) us := g1.imp fun _ _ _ h => h.mono (le2.trans le3)
    clear H5 H4 H3 H2 H1 I3
    walk_at "R"
    refine W_eqL0 (St.at (by assumption) k6) (St.mem (by assumption) (by walk_at "mem")) (by have := R.u; lia) ?_
    walk_at "R"
    rcases hres with ⟨hp0, hk0⟩ | ⟨hp0, hr0⟩
    · have hks : allKds op xs = [] := ag.e1 hp0
      rw [hks] at g2
      cases g2
      rw [if_pos (by rfl)]
      walk_at "R"
      refine W_kind X (by assumption) (hk0.mono hle) fun t4 s6 H7 => ?_
      walk_at "R"
      rw [kd_null]
      exact h f3 _ hle (by walk_at "arr")
    · have hkne : allKds op xs ≠ [] := fun e => hp0 (ag.e0 e)
      have hks : ks.isEmpty = false := by
        cases ks with
        | nil => exact absurd (List.eq_nil_of_length_eq_zero (by rw [hg2]; rfl)) hkne
        | cons => rfl
      rw [hks]
      obtain ⟨x, li, rus, av, rfl, r1, r2, r3, r4, r5⟩ := hr0
      have r1' := r1.mono hle
      have r2' := r2.mono hle
      have r5' := r5.mono hle
      walk_at "R"
      rename_i q1 _ _ q2 _ _ q3 _ _ q4 _ _ q5 _ _ oa _ _ _ _
      refine W_ListComp (cl := [(Str.ofString "order_of_kinds", L + 1)]) (by kernel_rfl) (by kernel_rfl) ?_
      walk_at "R"
      refine W_iter_list (by assumption) R.hh (k6.imp fun _ => IsLst.w) ?_
      intro it s5 I5 H7
      refine W_compG (by kernel_rfl) I5 (fun j f' N' vs' => f3 = f' ∧ All2 IsNt (((allKds op xs).take j).map lrank) vs' ∧ N' = (oa, IsLst [.str (Str.ofString "logical") q1, .str (Str.ofString "integer") q2, .str (Str.ofString "character") q3, .str (Str.ofString "list") q4, .str (Str.ofString "expression") q5]) :: (L, HasVars [("some", .bool (anyN op xs)), ("kinds", .ref ka), ("found", .ref fa), ("wished", .bool un), ("told", .ref x)]) :: (L + 2, IsCellN) :: (L + 1, IsCellO (.ref oa)) :: N) (by walk_at "arr") (Le.refl _) ⟨rfl, .nil, rfl⟩ ?_ ?_
      · rintro Q1 C acc j f' N' vs' l s6 v hn hj hl2 ⟨rfl, c1, rfl⟩ hvj H8
        obtain ⟨k, hk1, tk, rfl⟩ := g2.get (i := j) (by simpa using hvj)
        obtain ⟨hi1, hi2⟩ := order_idx k (ag.kdok k (List.mem_of_getElem? hk1))
        have hc1 := c1.length
        rw [List.length_map, List.length_take] at hc1
        walk_at "R"
        refine W_lindex (by assumption) (St.mem (by assumption) (by walk_at "mem")) (by walk_at "strs") (lrank k) hi1 hi2 (by decide) fun t6 s7 H9 => ?_
        refine hn _ _ ⟨f3, _, _, Le.refl _, ⟨rfl, ?_, rfl⟩, by lia, by walk_at "arr"⟩
        rw [List.take_succ, hk1, List.map_append]
        exact c1.snoc ⟨t6, rfl⟩
      rintro acc f' N' vs' s6 hl2 ⟨rfl, c1, rfl⟩ H8
      rw [List.take_of_length_le (by rw [hg2]; simp)] at c1
      walk_at "R"
      refine W_maxL (by assumption) (by walk_at "mem") R.hh (St.mem (by assumption) (by walk_at "mem")) (ints_of c1) (by rw [List.length_map, List.length_map]; cases hkk : allKds op xs with | nil => exact absurd hkk hkne | cons => simp) fun M t8 s7 hM1 hM2 H9 => ?_
      obtain ⟨m, hm1, rfl⟩ := List.mem_map.mp hM1
      have hm2 : ∀ a ∈ (allKds op xs).map lrank, a ≤ m := fun a ha => by have := hM2 (a : Int) (List.mem_map.mpr ⟨a, ha, rfl⟩); lia
      have hwid := ag.wid m hm1 hm2
      have hm5 : m < 5 := by
        obtain ⟨k, _, rfl⟩ := List.mem_map.mp hm1
        cases k <;> decide
      have hit : ∃ tz, [Value.str (Str.ofString "logical") q1, .str (Str.ofString "integer") q2, .str (Str.ofString "character") q3, .str (Str.ofString "list") q4, .str (Str.ofString "expression") q5][m]? = some (.str (kdOf (pt op xs)).s tz) := by
        rw [← hwid]
        have : m = 0 ∨ m = 1 ∨ m = 2 ∨ m = 3 ∨ m = 4 := by lia
        rcases this with rfl | rfl | rfl | rfl | rfl
        · exact ⟨q1, rfl⟩
        · exact ⟨q2, rfl⟩
        · exact ⟨q3, rfl⟩
        · exact ⟨q4, rfl⟩
        · exact ⟨q5, rfl⟩
      obtain ⟨tz, hit⟩ := hit
      refine W_itemL (St.mem (by assumption) (by walk_at "mem")) hit (by lia) ?_
      have hits := ag.its
      have hrow := ag.rowok
      have hnam := ag.names
      have hnok := ag.nameok
      have hlen2 := ag.len
      have hresn : resNames op un xs = if (un && decide (0 < total (pt op xs))) = true then (if anyN op xs = true then some (extAll op xs NR0).names else none) else none := rfl
      rw [hlen2] at r3 hresn
      rw [hresn] at r5'
      generalize hkd : kdOf (pt op xs) = kd at *
      generalize hrr : allRows op xs 0 0 = rows at *
      walk_at "R"
      refine W_kind X (by assumption) r1'.kind fun t9 s8 H10 => ?_
      walk_at "R"
      rw [show (kd.s != kd.s) = false by simp]
      walk_at "R"
      refine W_items X (by assumption) r1' rfl fun s9 H11 => ?_
      walk_at "R"
      refine W_lenL (by assumption) (St.at (by assumption) r2') (by lia) fun t10 s10 H12 => ?_
      walk_at "R"
      refine W_lenL (by assumption) (St.at (by assumption) k5) (by lia) fun t11 s11 H13 => ?_
      refine W_nei ?_
      rw [show (((rus.length : Nat) : Int) != ((us.length : Nat) : Int)) = false by simp; lia]
      have hu64 : (A.deeper (callEnvC F697 L 697)).units < cLine := by have := R.u; lia
      have rest := fun s12 H14 => due_rest X (b := anyN op xs) (nl := (extAll op xs NR0).names) (N := N) (Q := Q) (kd := kd) (tz := tz) (oa := oa) (s12 := s12) R k5 g1 hrl1 hnam hnok r1' r5' H14 fun s13 H15 => h f3 s13 hle H15
      walk_at "R"
      rw [kd_at3]
      cases hat : kd.atomic with
      | false =>
        rw [if_neg Bool.false_ne_true]
        refine W_nil ?_
        try dsimp only
        exact rest _ (St.arrv L (by assumption) (by walk_at "ext") (by walk_at "sel") (by walk_at "amp"))
      | true =>
        walk_at "R"
        refine W_items X (by assumption) r1' rfl fun s12 H14 => ?_
        walk_at "R"
        refine W_listof (by assumption) (by walk_at "mem") (St.at (by assumption) r2') (by lia) fun lb s13 H15 => ?_
        refine W_ListComp (cl := [(Str.ofString "widest_kind", L + 2)]) (by kernel_rfl) (by kernel_rfl) ?_
        walk_at "R"
        refine W_iter_list (by assumption) R.hh (k5.imp fun _ => IsLst.w) ?_
        intro it s14 I6 H16
        refine W_compG (by kernel_rfl) I6 (fun j f' N' vs' => f3 = f' ∧ All2 IsIt ((rows.take j).map fun r => r.it.raise r.kd kd) vs' ∧ N' = (lb, IsLst rus) :: (L, HasVars [("some", .bool (anyN op xs)), ("found", .ref fa), ("wished", .bool un), ("told", .ref x)]) :: (L + 2, IsCellO (.str kd.s tz)) :: (L + 1, IsCellO (.ref oa)) :: N) (St.arrv L (by assumption) (by walk_at "ext") (by walk_at "sel") (by walk_at "amp")) (Le.refl _) ⟨rfl, .nil, rfl⟩ ?_ ?_
        · rintro Q1 C acc j f' N' vs' l s15 v hn hj hl3 ⟨rfl, d1, rfl⟩ hvj H17
          obtain ⟨r, hr1, a', c', ov', bv', rv', iv', tt', rfl, x1, x2, x3, x4, x5, x6⟩ := g1.get (i := j) (by simpa using hvj)
          obtain ⟨w1, w2, w3⟩ := hrow hat r (List.mem_of_getElem? hr1)
          have hd1 := d1.length
          rw [List.length_map, List.length_take] at hd1
          walk_at "R"
          refine raised_ok X (R.le (by lia)) (by assumption) x2 (x6 w1) w2 w1 hat w3 fun v2 s16 hv2 H18 => ?_
          refine hn _ _ ⟨f3, _, _, Le.refl _, ⟨rfl, ?_, rfl⟩, by lia, by walk_at "arr"⟩
          rw [List.take_succ, hr1, List.map_append]
          exact d1.snoc hv2
        · rintro acc2 f' N' vs2 s15 hl3 ⟨rfl, d1, rfl⟩ H17
          rw [List.take_of_length_le (by rw [hg1]; simp)] at d1
          have hr4 := r4 hat
          rw [hits hat] at hr4
          refine W_neLL (St.mem (by assumption) (by walk_at "mem")) (St.mem (by assumption) (by walk_at "mem")) hu64 (All2.join (R := IsIt) (fun _ _ _ => it_eq) hr4 d1) ?_
          refine W_truth ?_
          rw [if_neg Bool.false_ne_true]
          refine W_nil ?_
          try dsimp only
          refine W_nil ?_
          try dsimp only
          exact rest _ (by walk_at "arr")
end
noncomputable def TopB (x : Str) (S P : Nat → Prop) : Prop := (∃ s, s < 200 ∧ S s ∧ x = topOf s) ∨ ∃ a d s, a < 200 ∧ d < 200 ∧ x = idOf a d s ∧ P a
theorem TopB.imp {x : Str} {S P S' P' : Nat → Prop} (h : TopB x S P) (h1 : ∀ s, S s → S' s) (h2 : ∀ a, P a → P' a) : TopB x S' P' := by
  rcases h with ⟨s, a1, a2, a3⟩ | ⟨a, d, s, a1, a2, a3, a4⟩
  · exact .inl ⟨s, a1, h1 _ a2, a3⟩
  · exact .inr ⟨a, d, s, a1, a2, a3, h2 _ a4⟩
theorem TopB.idb {x : Str} {S P : Nat → Prop} (h : TopB x S P) : IdB x (fun a _ => P a) := by
  rcases h with ⟨s, a1, a2, a3⟩ | ⟨a, d, s, a1, a2, a3, a4⟩
  · exact .inl ⟨s, a1, a3⟩
  · exact .inr ⟨a, d, s, a1, a2, a3, a4⟩
theorem TopB.ne {x : Str} {S P : Nat → Prop} {i : Nat} (h : TopB x S P) (hi : i < 200) (hn : ¬ S i) : x ≠ topOf i := by
  rintro rfl
  rcases h with ⟨s, a1, a2, a3⟩ | ⟨a, d, s, a1, a2, a3, a4⟩
  · have := top_inj hi a1 a3; subst this; exact hn a2
  · exact top_id hi a3
noncomputable def arnd (x : Nm × Plan) (i : Nat) : List Str := if x.1 = nm0 then [] else [topOf i]
theorem rowsOne_eq (op : Bool) (x : Nm × Plan) (i m : Nat) : rowsOne op x i m = spr op x.2 x.1 (arnd x i) m := rfl
theorem arnd_len (x : Nm × Plan) (i : Nat) : (arnd x i).length ≤ 1 := by unfold arnd; split <;> simp
theorem arnd_mem {x : Nm × Plan} {i : Nat} {y : Str} (h : y ∈ arnd x i) : y = topOf i := by
  unfold arnd at h
  split at h
  · cases h
  · simpa using h
theorem rowsOne_spr (op : Bool) {x : Nm × Plan} (h : OkPlan 2 x.2) (i m : Nat) (h1 : m + cl op x.2 ≤ 150) : SprAr (rowsOne op x i m) (arnd x i) m := by
  have := arnd_len x i
  exact spr_ar op 2 x.2 h x.1 (arnd x i) m (by lia) (by lia)
theorem rowsOne_ar (op : Bool) {x : Nm × Plan} (h : OkPlan 2 x.2) (i m : Nat) (hi : i < 200) (h1 : m + cl op x.2 ≤ 150) : ∀ j r, (rowsOne op x i m)[j]? = some r → ∀ y ∈ r.around, TopB y (· = i) (fun a => m ≤ a ∧ a ≤ m + j) := by
  intro j r hr y hy
  obtain ⟨e, he, hx⟩ := rowsOne_spr op h i m h1 j r hr
  rw [he] at hy
  rcases List.mem_append.mp hy with z | z
  · exact .inl ⟨i, hi, rfl, arnd_mem z⟩
  · obtain ⟨a, d, s, k1, k2, k3, k4, k5, k6⟩ := hx y z
    exact .inr ⟨a, d, s, k1, k2, k3, k4, k5⟩
theorem allRows_ar (op : Bool) : ∀ (xs : List (Nm × Plan)) (i m : Nat), (∀ x ∈ xs, OkPlan 2 x.2) → i + xs.length < 200 → m + (allRows op xs i m).length ≤ 150 → ∀ (j : Nat) (r : Row), (allRows op xs i m)[j]? = some r → ∀ y ∈ r.around, TopB y (i ≤ ·) (m ≤ ·)
  | [], i, m, _, _, _, j, r, hr, _, _ => by rw [allRows] at hr; simp at hr
  | x :: xs, i, m, h, h1, h2, j, r, hr, y, hy => by
    rw [List.length_cons] at h1
    rw [allRows, List.length_append] at h2
    have hl := rowsOne_len op (h x (.head _)) i m
    rw [allRows] at hr
    rcases Nat.lt_or_ge j (rowsOne op x i m).length with q | q
    · rw [List.getElem?_append_left q] at hr
      exact (rowsOne_ar op (h x (.head _)) i m (by lia) (by lia) j r hr y hy).imp (fun s e => by lia) (fun a e => by lia)
    · rw [List.getElem?_append_right q] at hr
      exact (allRows_ar op xs (i + 1) _ (fun z hz => h z (.tail _ hz)) (by lia) (by lia) _ r hr y hy).imp (fun s e => by lia) (fun a e => by lia)
theorem mainTop (op : Bool) : ∀ (xs : List (Nm × Plan)) (R pre : List Row) (i m : Nat) (r : NR), (∀ x ∈ xs, OkPlan 2 x.2) → R = pre ++ allRows op xs i m → pre.length = m → (∀ (k : Nat) (r : Row), pre[k]? = some r → ∀ y ∈ r.around, TopB y (· < i) (· < m)) → i + xs.length < 200 → m + (allRows op xs i m).length ≤ 150 → r.number ≤ m →
    (extAll op xs r).names = r.names ++ nms R (allRows op xs i m) m
  | [], R, pre, i, m, r, _, _, _, _, _, _, _ => by rw [allRows, nms_nil, List.append_nil]; rfl
  | x :: xs, R, pre, i, m, r, hok, hR, hm, hpre, h1, h2, hn => by
    rw [List.length_cons] at h1
    rw [allRows] at hR h2 ⊢
    rw [List.length_append] at h2
    have hx := hok x (.head _)
    have hok' := fun z hz => hok z (List.mem_cons_of_mem x hz)
    have hl := rowsOne_len op hx i m
    have hR1 : R = pre ++ rowsOne op x i m ++ allRows op xs (i + 1) (m + (rowsOne op x i m).length) := by rw [hR, List.append_assoc]
    have hpre' : ∀ (k : Nat) (r : Row), (pre ++ rowsOne op x i m)[k]? = some r → ∀ y ∈ r.around, TopB y (· < i + 1) (· < m + (rowsOne op x i m).length) := by
      intro k r hr y hy
      rcases Nat.lt_or_ge k pre.length with q | q
      · rw [List.getElem?_append_left q] at hr
        exact (hpre k r hr y hy).imp (fun s e => by lia) (fun a e => by lia)
      · rw [List.getElem?_append_right q] at hr
        have := (List.getElem?_eq_some_iff.mp hr).1
        exact (rowsOne_ar op hx i m (by lia) (by lia) _ r hr y hy).imp (fun s e => by lia) (fun a e => by lia)
    have haft := allRows_ar op xs (i + 1) (m + (rowsOne op x i m).length) hok' (by lia) (by lia)
    have bef : ∀ (k : Nat) (r : Row), k < m → R[k]? = some r → ∀ y ∈ r.around, TopB y (· < i) (· < m) := by
      intro k r hk hr
      rw [hR, List.getElem?_append_left (by lia)] at hr
      exact hpre k r hr
    have aft : ∀ (k : Nat) (r : Row), m + cl op x.2 ≤ k → R[k]? = some r → ∀ y ∈ r.around, TopB y (i + 1 ≤ ·) (m + cl op x.2 ≤ ·) := by
      intro k r hk hr y hy
      rw [hR1, List.getElem?_append_right (by rw [List.length_append]; lia)] at hr
      have := haft _ r hr y hy
      rwa [hl] at this
    have ctx : Ctx R (arnd x i) m (cl op x.2) := ⟨fun k r hk hr y hy => (bef k r hk hr y hy).idb, fun k r hk hr y hy => .inr (aft k r hk hr y hy).idb, fun y hy => .inl ⟨i, by lia, arnd_mem hy⟩⟩
    have e1 : (ext op x.2 nm0 x.1 r).names = r.names ++ nms R (rowsOne op x i m) m := by
      have hal := arnd_len x i
      by_cases hh : x.1 = nm0
      · have ha : arnd x i = [] := by unfold arnd; rw [if_pos hh]
        rw [ext, tagStep, if_neg (fun e => e hh), rowsOne_eq, ha, hh]
        rw [ha] at ctx
        rw [rowsOne_eq, ha, hh] at hR1
        exact main op 2 x.2 hx R pre _ nm0 [] m r hR1 hm (fun e => absurd rfl e) (fun _ last e => by cases e) hn ctx (by lia) (by simp)
      · have ha : arnd x i = [topOf i] := by unfold arnd; rw [if_neg hh]
        have hj : jb nm0 x.1 = x.1 := by unfold jb; rw [if_neg (fun e => e.1 rfl), if_pos hh]
        rw [ext, tagStep, if_pos hh, rowsOne_eq, ha, hj]
        have hspr := rowsOne_spr op hx i m (by lia)
        have hg : Grp R [topOf i] m (cl op x.2) := by
          intro last hl' k
          injection hl' with hl'
          subst hl'
          constructor
          · rintro ⟨q, hq, hy⟩
            refine ⟨Nat.le_of_not_lt fun z => ?_, Nat.lt_of_not_le fun z => ?_⟩
            · exact (bef k q z hq _ hy).ne (by lia) (by lia) rfl
            · exact (aft k q z hq _ hy).ne (by lia) (by lia) rfl
          · rintro ⟨k1, k2⟩
            have hk : k < R.length := by
              rw [hR1, List.length_append, List.length_append]
              lia
            have hgm := get_mid hR1 hm k1 (by lia) (List.getElem?_eq_getElem hk)
            obtain ⟨e, he, _⟩ := hspr _ _ hgm
            exact ⟨R[k], List.getElem?_eq_getElem hk, by rw [he, ha]; simp⟩
        rw [ha] at ctx
        rw [rowsOne_eq, ha] at hR1
        exact main op 2 x.2 hx R pre _ x.1 [topOf i] m ⟨r.names, 0, cl op x.2⟩ hR1 hm (fun _ => by simp) (fun _ => hg) (Nat.zero_le _) ctx (by lia) (by simp)
    obtain ⟨t1, t2, t3⟩ := ext_len op hx nm0 x.1 r
    have ih := mainTop op xs R (pre ++ rowsOne op x i m) (i + 1) (m + (rowsOne op x i m).length) (ext op x.2 nm0 x.1 r) hok' hR1 (by rw [List.length_append, hm]) hpre' (by lia) (by lia) (by lia)
    rw [nms_app, ← List.append_assoc, ← e1, ← ih]
    rfl
theorem names_law (op : Bool) (xs : List (Nm × Plan)) (ho : OkArgs xs) : (extAll op xs NR0).names = lawNames (allRows op xs 0 0) := by
  have h1 := allRows_le op xs 0 0 fun x hx => (ho.2 x hx).2
  have h2 := ho.1
  have := mainTop op xs (allRows op xs 0 0) [] 0 0 NR0 (fun x hx => (ho.2 x hx).2) rfl rfl (fun k r h => by simp at h) (by lia) (by lia) (Nat.le_refl _)
  exact this
/-! the kinds, the lengths, the items -/
noncomputable def Kd.nrm : Kd → Kd
  | .pl => .ls
  | .sy => .ls
  | .lg => .lg
  | .it => .it
  | .ch => .ch
  | .ls => .ls
  | .ex => .ex
  | .nu => .nu
structure PartP (op : Bool) (p : Plan) : Prop where
  kds : kds op p = (parts op p).map fun q => q.kd.nrm
  nu : ∀ q ∈ parts op p, q.kd ≠ .nu
  len : total (parts op p) = cl op p
theorem total_app (a b : List Plan) : total (a ++ b) = total a + total b := by simp [total]
theorem partL (op : Bool) : ∀ (ps : List Plan), (∀ p ∈ ps, PartP op p) → kdsL op ps = (partsL op ps).map (fun q => q.kd.nrm) ∧ (∀ q ∈ partsL op ps, q.kd ≠ .nu) ∧ total (partsL op ps) = clL op ps
  | [], _ => by rw [kdsL, partsL, clL]; exact ⟨rfl, (fun _ h => nomatch h), rfl⟩
  | p :: ps, h => by
    obtain ⟨a1, a2, a3⟩ := h p (.head _)
    obtain ⟨b1, b2, b3⟩ := partL op ps fun q hq => h q (.tail _ hq)
    rw [kdsL, partsL, clL, List.map_append, total_app, a1, b1, a3, b3]
    refine ⟨rfl, fun q hq => ?_, rfl⟩
    rcases List.mem_append.mp hq with z | z
    · exact a2 q z
    · exact b2 q z
theorem part_p (op : Bool) : ∀ (n : Nat) (p : Plan), OkPlan n p → PartP op p
  | n, .nothing, _ => ⟨by rw [kds, parts]; rfl, (by rw [parts]; exact fun _ h => nomatch h), by rw [parts, cl]; rfl⟩
  | n, .name, _ => ⟨by rw [kds, parts]; rfl, (by rw [parts]; intro q h; rw [List.mem_singleton] at h; subst h; exact fun e => nomatch e), by rw [parts, cl]; rfl⟩
  | n, .row k its hd, h => by
    have h1 : k.atomic = true := by cases n <;> exact h.1
    refine ⟨?_, ?_, ?_⟩
    · rw [kds, parts]
      show [k] = [k.nrm]
      cases k <;> first | rfl | (cases h1; done)
    · rw [parts]; intro q h; rw [List.mem_singleton] at h; subst h
      show k ≠ .nu
      rintro rfl; cases h1
    · rw [parts, cl]; show its.length + 0 = _; rfl
  | 0, .tree .., h => h.elim
  | n + 1, .tree k kids hd, h => by
    have h1 : k.treeish = true := h.1
    obtain ⟨b1, b2, b3⟩ := partL op kids fun p hp => part_p op n p (h.2.2.1 p hp)
    cases op with
    | true =>
      refine ⟨?_, ?_, ?_⟩
      · rw [kds_tree, parts, if_pos rfl, if_pos rfl]; exact b1
      · rw [parts, if_pos rfl]; exact b2
      · rw [parts, cl, if_pos rfl, if_pos rfl]; exact b3
    | false =>
      refine ⟨?_, ?_, ?_⟩
      · rw [kds_tree, parts, if_neg (by decide), if_neg (by decide)]
        show [k.norm] = [k.nrm]
        cases k <;> first | rfl | (cases h1; done)
      · rw [parts, if_neg (by decide)]; intro q h; rw [List.mem_singleton] at h; subst h
        show k ≠ .nu
        rintro rfl; cases h1
      · rw [parts, cl, if_neg (by decide), if_neg (by decide)]; show kids.length + 0 = _; rfl
theorem kds_all (op : Bool) (xs : List (Nm × Plan)) (ho : OkArgs xs) : allKds op xs = (pt op xs).map (fun q => q.kd.nrm) ∧ (∀ q ∈ pt op xs, q.kd ≠ .nu) ∧ total (pt op xs) = clL op (xs.map (·.2)) :=
  partL op _ fun p hp => by
    obtain ⟨x, hx, rfl⟩ := List.mem_map.mp hp
    exact part_p op 2 x.2 (ho.2 x hx).2
theorem allRows_len (op : Bool) : ∀ (xs : List (Nm × Plan)) (i m : Nat), (∀ x ∈ xs, OkPlan 2 x.2) → (allRows op xs i m).length = clL op (xs.map (·.2))
  | [], i, m, _ => by rw [allRows, List.map_nil, clL]; rfl
  | x :: xs, i, m, h => by
    rw [allRows, List.length_append, List.map_cons, clL, rowsOne_len op (h x (.head _)), allRows_len op xs _ _ fun z hz => h z (.tail _ hz)]
theorem wid_lem : ∀ k0 k1 : Kd, k0 ≠ .nu → k1 ≠ .nu → rank k0 ≤ rank k1 → lrank k1.nrm ≤ lrank k0.nrm → ofLrank (lrank k0.nrm) = ofRank (rank k1) := by
  intro k0 k1 h0 h1 h2 h3
  cases k0 <;> first | exact absurd rfl h0 | (cases k1 <;> first | exact absurd rfl h1 | rfl | exact absurd h2 (by decide) | exact absurd h3 (by decide))
theorem rank_pos : ∀ k : Kd, k ≠ .nu → 0 < rank k := by intro k h; cases k <;> first | exact absurd rfl h | decide
theorem wid_all (ps : List Plan) (hn : ∀ q ∈ ps, q.kd ≠ .nu) (M : Nat) (h1 : M ∈ (ps.map fun q => q.kd.nrm).map lrank) (h2 : ∀ a ∈ (ps.map fun q => q.kd.nrm).map lrank, a ≤ M) : ofLrank M = kdOf ps := by
  rw [List.map_map] at h1 h2
  obtain ⟨p0, hp0, rfl⟩ := List.mem_map.mp h1
  have g := top_ge (ps.map Plan.kd)
  have g0 := g p0.kd (List.mem_map_of_mem hp0)
  have r0 := rank_pos _ (hn p0 hp0)
  rcases top_mem (ps.map Plan.kd) with z | ⟨k1, hk1, z⟩
  · lia
  · obtain ⟨p1, hp1, rfl⟩ := List.mem_map.mp hk1
    unfold kdOf
    rw [z]
    exact wid_lem _ _ (hn p0 hp0) (hn p1 hp1) (by lia) (h2 _ (List.mem_map_of_mem hp1))
theorem kdok_nrm : ∀ k : Kd, k ≠ .nu → k.nrm = .lg ∨ k.nrm = .it ∨ k.nrm = .ch ∨ k.nrm = .ls ∨ k.nrm = .ex := by
  intro k h
  cases k <;> first | exact absurd rfl h | exact .inl rfl | exact .inr (.inl rfl) | exact .inr (.inr (.inl rfl)) | exact .inr (.inr (.inr (.inl rfl))) | exact .inr (.inr (.inr (.inr rfl)))
theorem atomic_rank : ∀ k kd : Kd, k ≠ .nu → kd.atomic = true → rank k ≤ rank kd → k.atomic = true := by
  intro k kd h1 h2 h3
  cases kd <;> first | (cases h2; done) | (cases k <;> first | rfl | exact absurd rfl h1 | exact absurd h3 (by decide))
theorem rank_of : ∀ m, m < 7 → m ≠ 3 → (ofRank m).atomic = true → rank (ofRank m) = m := by
  intro m h1 h2 h3
  have : m = 0 ∨ m = 1 ∨ m = 2 ∨ m = 4 ∨ m = 5 ∨ m = 6 := by lia
  rcases this with rfl | rfl | rfl | rfl | rfl | rfl <;> first | rfl | (cases h3; done)
theorem kdOf_at (ps : List Plan) (h : (kdOf ps).atomic = true) : ∀ q ∈ ps, q.kd ≠ .nu → q.kd.atomic = true ∧ rank q.kd ≤ rank (kdOf ps) := by
  intro q hq hn
  have g := top_ge (ps.map Plan.kd) _ (List.mem_map_of_mem hq)
  have e : rank (kdOf ps) = top (ps.map Plan.kd) := rank_of _ (top_lt _) (top_ne3 _) h
  exact ⟨atomic_rank _ _ hn h (by lia), by lia⟩
/-- the rows of a plan whose parts are all atomic -/
structure ItP (op : Bool) (kd : Kd) (ps : List Plan) (rows : List Row) : Prop where
  its : rits kd ps = rows.map fun r => r.it.raise r.kd kd
  ok : ∀ r ∈ rows, r.kd.atomic = true ∧ OkIt r.kd r.it ∧ ∃ q ∈ ps, q.kd = r.kd
theorem rits_app (kd : Kd) (a b : List Plan) : rits kd (a ++ b) = rits kd a ++ rits kd b := by simp [rits]
theorem ItP.nil {op : Bool} {kd : Kd} : ItP op kd [] [] := ⟨rfl, fun _ h => nomatch h⟩
theorem ItP.app {op : Bool} {kd : Kd} {a b : List Plan} {r q : List Row} (h1 : ItP op kd a r) (h2 : ItP op kd b q) : ItP op kd (a ++ b) (r ++ q) := by
  refine ⟨by rw [rits_app, List.map_append, h1.its, h2.its], fun x hx => ?_⟩
  rcases List.mem_append.mp hx with z | z
  · obtain ⟨a1, a2, p, hp, a3⟩ := h1.ok x z
    exact ⟨a1, a2, p, List.mem_append_left _ hp, a3⟩
  · obtain ⟨a1, a2, p, hp, a3⟩ := h2.ok x z
    exact ⟨a1, a2, p, List.mem_append_right _ hp, a3⟩
theorem rowsOf_its (k kd : Kd) (base : Nm) (around : List Str) : ∀ (is : List It) (ns : List Nm), is.length = ns.length → (rowsOf k base around is ns).map (fun r => r.it.raise r.kd kd) = is.map (·.raise k kd)
  | [], [], _ => rfl
  | i :: is, n :: ns, h => by rw [rowsOf, List.map_cons, List.map_cons, rowsOf_its k kd base around is ns (by simpa using h)]
theorem rowsOf_mem (k : Kd) (base : Nm) (around : List Str) : ∀ (is : List It) (ns : List Nm), ∀ r ∈ rowsOf k base around is ns, r.kd = k ∧ r.it ∈ is ∧ r.own ∈ ns ∧ r.base = base ∧ r.around = around
  | i :: is, n :: ns, r, h => by
    rw [rowsOf] at h
    rcases List.mem_cons.mp h with rfl | h
    · exact ⟨rfl, .head _, .head _, rfl, rfl⟩
    · obtain ⟨a, b, c, d⟩ := rowsOf_mem k base around is ns r h
      exact ⟨a, .tail _ b, .tail _ c, d⟩
  | [], ns, r, h => by rw [rowsOf] at h; cases h; intro i is n ns e; cases e
  | i :: is, [], r, h => by rw [rowsOf] at h; cases h; intro i is n ns _ e; cases e
noncomputable def ItQ (op : Bool) (kd : Kd) (p : Plan) : Prop := (∀ q ∈ parts op p, q.kd.atomic = true) → ∀ base around m, ItP op kd (parts op p) (spr op p base around m)
theorem itL (op : Bool) (kd : Kd) : ∀ (ps : List Plan) (hs : List Nm), ps.length = hs.length → (∀ p ∈ ps, ItQ op kd p) → (∀ q ∈ partsL op ps, q.kd.atomic = true) → ∀ base around i m, ItP op kd (partsL op ps) (sprL op ps hs base around i m)
  | [], [], _, _, _, base, around, i, m => by rw [partsL, sprL_nil]; exact .nil
  | p :: ps, h :: hs, hl, hp, ha, base, around, i, m => by
    rw [partsL] at ha ⊢
    rw [sprL_cons]
    refine ItP.app ?_ (itL op kd ps hs (by simpa using hl) (fun q hq => hp q (.tail _ hq)) (fun q hq => ha q (List.mem_append_right _ hq)) _ _ _ _)
    have := hp p (.head _) fun q hq => ha q (List.mem_append_left _ hq)
    unfold sprOne
    split <;> exact this _ _ _
theorem it_q (op : Bool) (kd : Kd) : ∀ (n : Nat) (p : Plan), OkPlan n p → ItQ op kd p
  | n, .nothing, _ => fun _ base around m => by rw [parts, spr]; exact .nil
  | n, .name, _ => fun h base around m => by
    rw [parts] at h
    exact absurd (h _ (.head _)) (by decide)
  | n, .row k its hd, h => fun _ base around m => by
    have h4 : OkHeads its.length hd := by cases n <;> exact h.2.2.2
    have h3 : ∀ x ∈ its, OkIt k x := by cases n <;> exact h.2.2.1
    have h1 : k.atomic = true := by cases n <;> exact h.1
    rw [parts, spr]
    refine ⟨?_, fun r hr => ?_⟩
    · rw [rowsOf_its _ _ _ _ _ _ h4.len.symm]
      show (its.map fun x => x.raise k kd) ++ [] = _
      rw [List.append_nil]
    · obtain ⟨a1, a2, _⟩ := rowsOf_mem _ _ _ _ _ r hr
      rw [a1]
      exact ⟨h1, h3 _ a2, _, .head _, rfl⟩
  | 0, .tree .., h => h.elim
  | n + 1, .tree k kids hd, h => fun ha base around m => by
    cases op with
    | true =>
      rw [parts, if_pos rfl] at ha
      rw [parts, spr, if_pos rfl, if_pos rfl]
      exact itL true kd kids _ h.2.2.2.len.symm (fun p hp => it_q true kd n p (h.2.2.1 p hp)) ha _ _ _ _
    | false =>
      rw [parts, if_neg (by decide)] at ha
      have h1 : k.treeish = true := h.1
      have h2 : k.atomic = true := ha _ (.head _)
      exact absurd h2 (by cases k <;> first | decide | (cases h1; done))
theorem it_all (op : Bool) (kd : Kd) : ∀ (xs : List (Nm × Plan)) (i m : Nat), (∀ x ∈ xs, OkPlan 2 x.2) → (∀ q ∈ pt op xs, q.kd.atomic = true) → ItP op kd (pt op xs) (allRows op xs i m)
  | [], i, m, _, _ => by rw [allRows, pt, List.map_nil, partsL]; exact .nil
  | x :: xs, i, m, h, ha => by
    rw [pt, List.map_cons, partsL] at ha
    rw [allRows, pt, List.map_cons, partsL]
    exact ItP.app (it_q op kd 2 x.2 (h x (.head _)) (fun q hq => ha q (List.mem_append_left _ hq)) _ _ _) (it_all op kd xs _ _ (fun z hz => h z (.tail _ hz)) fun q hq => ha q (List.mem_append_right _ hq))
/-- the names in a row -/
noncomputable def OkR (r : Row) : Prop := OkNm r.own ∧ (txt r.base).length ≤ 1000 ∧ (r.base ≠ nm0 → r.around ≠ []) ∧ r.around.length ≤ 1000
noncomputable def OkRP (op : Bool) (n : Nat) (p : Plan) : Prop := ∀ base around m, (txt base).length + 10 * n ≤ 1000 → around.length + n ≤ 1000 → (base ≠ nm0 → around ≠ []) → ∀ r ∈ spr op p base around m, OkR r
theorem nm0_ok : OkNm nm0 := by intro x e; cases e; decide +kernel
theorem okrL (op : Bool) (n : Nat) : ∀ (ps : List Plan) (hs : List Nm), ps.length = hs.length → (∀ p ∈ ps, OkRP op n p) → (∀ h ∈ hs, OkNm h) → ∀ base around i m, (txt base).length + 10 * (n + 1) ≤ 1000 → around.length + (n + 1) ≤ 1000 → (base ≠ nm0 → around ≠ []) → ∀ r ∈ sprL op ps hs base around i m, OkR r := by
  intro ps
  induction ps with
  | nil =>
    intro hs hl _ _ base around i m _ _ _ r hr
    cases hs with
    | nil => rw [sprL_nil] at hr; cases hr
    | cons h hs => simp at hl
  | cons p ps ih =>
    intro hs hl hp hh base around i m h1 h2 h3 r hr
    cases hs with
    | nil => simp at hl
    | cons h hs =>
    rw [sprL_cons] at hr
    rcases List.mem_append.mp hr with z | z
    · have hpp := hp p (.head _)
      have hj := txt_jb base h
      have ht := (hh h (.head _)).len
      unfold sprOne at z
      split at z
      · exact hpp _ _ _ (by lia) (by lia) h3 r z
      · exact hpp _ _ _ (by lia) (by rw [List.length_append, List.length_singleton]; lia) (fun _ => by simp) r z
    · exact ih hs (by simpa using hl) (fun q hq => hp q (.tail _ hq)) (fun q hq => hh q (.tail _ hq)) _ _ _ _ h1 h2 h3 r z
theorem okr (op : Bool) : ∀ (n : Nat) (p : Plan), OkPlan n p → OkRP op n p
  | n, .nothing, _ => fun base around m _ _ _ r hr => by rw [spr] at hr; cases hr
  | n, .name, _ => fun base around m h1 h2 h3 r hr => by
    rw [spr, List.mem_singleton] at hr
    subst hr
    exact ⟨nm0_ok, by dsimp only; lia, h3, by dsimp only; lia⟩
  | n, .row k its hd, h => fun base around m h1 h2 h3 r hr => by
    have h4 : OkHeads its.length hd := by cases n <;> exact h.2.2.2
    rw [spr] at hr
    obtain ⟨a1, a2, a3, a4, a5⟩ := rowsOf_mem _ _ _ _ _ r hr
    exact ⟨h4.ok _ a3, by rw [a4]; lia, by rw [a4, a5]; exact h3, by rw [a5]; lia⟩
  | 0, .tree .., h => h.elim
  | n + 1, .tree k kids hd, h => fun base around m h1 h2 h3 r hr => by
    have h4 := h.2.2.2
    rw [spr] at hr
    split at hr
    · exact okrL op n kids _ h4.len.symm (fun p hp => okr op n p (h.2.2.1 p hp)) h4.ok _ _ _ _ h1 h2 h3 r hr
    · obtain ⟨a1, a2, a3, a4, a5⟩ := rowsOf_mem _ _ _ _ _ r hr
      exact ⟨h4.ok _ a3, by rw [a4]; lia, by rw [a4, a5]; exact h3, by rw [a5]; lia⟩
theorem okr_all (op : Bool) : ∀ (xs : List (Nm × Plan)) (i m : Nat), (∀ x ∈ xs, OkNm x.1 ∧ OkPlan 2 x.2) → ∀ r ∈ allRows op xs i m, OkR r
  | [], i, m, _, r, hr => by rw [allRows] at hr; cases hr
  | x :: xs, i, m, h, r, hr => by
    rw [allRows] at hr
    rcases List.mem_append.mp hr with z | z
    · obtain ⟨h1, h2⟩ := h x (.head _)
      have ht := h1.len
      have ha := arnd_len x i
      rw [rowsOne_eq] at z
      refine okr op 2 x.2 h2 _ _ _ (by lia) (by lia) (fun e => ?_) r z
      unfold arnd; rw [if_neg e]; simp
    · exact okr_all op xs _ _ (fun z hz => h z (.tail _ hz)) r z
theorem agree (op : Bool) (xs : List (Nm × Plan)) (ho : OkArgs xs) : Agree op xs := by
  obtain ⟨k1, k2, k3⟩ := kds_all op xs ho
  have hok : ∀ x ∈ xs, OkPlan 2 x.2 := fun x hx => (ho.2 x hx).2
  refine ⟨fun h => ?_, fun h => ?_, fun M => ?_, ?_, fun h => ?_, fun h => ?_, okr_all op xs 0 0 ho.2, fun _ => names_law op xs ho, fun k hk => ?_⟩
  · rw [k1] at h; exact List.map_eq_nil_iff.mp h
  · rw [k1, h]; rfl
  · rw [k1]; exact wid_all _ k2 M
  · rw [k3, allRows_len op xs 0 0 hok]
  · exact (it_all op _ xs 0 0 hok fun q hq => (kdOf_at _ h q hq (k2 q hq)).1).its
  · intro r hr
    obtain ⟨a1, a2, q, hq, a3⟩ := (it_all op (kdOf (pt op xs)) xs 0 0 hok fun q hq => (kdOf_at _ h q hq (k2 q hq)).1).ok r hr
    exact ⟨a1, a2, by rw [← a3]; exact (kdOf_at _ h q hq (k2 q hq)).2⟩
  · rw [k1] at hk
    obtain ⟨q, hq, rfl⟩ := List.mem_map.mp hk
    exact kdok_nrm _ (k2 q hq)
section
variable {prog : Program} {w : World} {P : Params} {B : Shared} {f : Heap} {N : Led} {s : Shared} {A : Around} {env : Env}
theorem pick90 {vs : List Value} (h : vs.length ≤ 63) : (slicePick vs.toArray none (some 90) none) = vs.toArray := by
  have e : sliceBounds none (some 90) none vs.toArray.size = (((0 : Nat) : Int), ((vs.length : Nat) : Int), 1) := by
    simp only [sliceBounds, Option.getD_none, show (1 : Int) > 0 by decide, if_true, if_neg (show ¬ ((90 : Int) < 0) by lia), List.size_toArray]
    congr 1
    congr 1
    lia
  rw [kmk_pick_nat _ e]
  simp
theorem W_slice90 {L : Addr} {l : List (Str × Value)} {sa : Addr} {vs : List Value} {x : Str} {vp p cp : Pos} {k : Nat} {Q : Value → Shared → Prop} (H : St B f N s) (hL : (L, HasVars l) ∈ N) (ha : At f sa (LstW vs.toArray)) (hv : vs.length ≤ 63)
    (h : ∀ b s', St B f ((b, IsLst vs) :: N) s' → Q (.ref b) s') :
    Wp prog w A (eval (.Slice none (some (.Constant (.int 90) k cp)) none p) env) (fun i s₂ => Wp prog w A (subscriptTail (.Name x vp) (.Slice none (some (.Constant (.int 90) k cp)) none p) (.ref sa) i) Q s₂) s := by
  refine ⟨wpAny_Slice ?_⟩
  rw [evalPart_none, evalPart_some]
  refine wpAny_pure ?_
  refine r_int H fun t s2 H2 => ?_
  refine wpAny_pure ?_
  obtain ⟨m, news, X⟩ := H2.brg hL
  refine ⟨slice_list X.F X.G (H2.at ha).isList .none (.int 90 t) (fun h' F' N' => h _ _ (X.new h' s2.toks _ _ _ F' N' (fun q hq => Nat.lt_succ_of_lt (Heap.lt_size (X.G q hq).1)) ⟨0, ?_⟩)) (by with_unfolding_all rfl) (by intro _; with_unfolding_all rfl) (by rw [List.size_toArray, sizeLine_eq]; lia)⟩
  rw [pick90 hv]; rfl
end
section
variable {prog : Program} {w : World} {P : Params} {B : Shared} {f : Heap} {N : Led} {s : Shared} {A : Around} {env : Env}
noncomputable def RestP (prog : Program) (w : World) (B : Shared) : Prop := ∀ {A : Around} {f : Heap} {N : Led} {s : Shared} {L pa : Addr} {xs : List (Nm × Plan)} {pus : List Value} {Q : Value → Shared → Prop}, Room (A.deeper (callEnv F702 L 702)) 19 → OkArgs xs → All2 (IsPairP f) xs pus → At f pa (IsLst pus) →
  St B f ((L, HasVars [("pairs", .ref pa)]) :: N) s → (∀ f' s', Le f f' → St B f' N s' → Q (.bool true) s') →
  Wp prog w (A.deeper (callEnv F702 L 702)) (execs ((fBody (st 107)).drop 3) (callEnv F702 L 702)) (fun fl s'' => Q (match fl with | .ret v => v | _ => .none) s'') s
theorem law_of (X : Base (K0 P) B) (hrest : RestP prog w B) (hA : Room A 20) {sa : Addr} {vs : List Value} (H : St B f N s) (hs : At f sa (LstW vs.toArray)) (hv : vs.length ≤ 63 ∧ ∀ v ∈ vs, ∃ i t, v = .int i t) {Q : Value → Shared → Prop}
    (h : ∀ f' s', Le f f' → St B f' N s' → Q (.bool true) s') : Wp prog w A (call (.ref 702) [.ref sa]) Q s := by
  refine W_enter [("script", .ref sa)] hA (fn_law X) X.lim H (body := fBody (st 107)) rfl (.of_eq rfl) (by kernel_rfl) ?_
  intro L s1 H1 R
  conv in fBody _ => whnf
  walk_at "R"
  refine W_slice90 (by assumption) (by walk_at "mem") hs hv.1 fun b s2 H2 => ?_
  walk_at "R"
  rename_i t0 _ _ m _ _ _ _ pa _ _ _ _ _ _ H3
  obtain ⟨f1, le1, H4, k4⟩ := (show St B f ((b, IsLst vs) :: _) _ by walk_at "arr").freeze
  have hsc : At f1 b IsScript := let ⟨o, h1, h2⟩ := k4; ⟨o, h1, vs, ⟨by lia, hv.2⟩, h2⟩
  have H5 : St B f1 ((m, IsMug b) :: (pa, IsLst []) :: (L, HasVars [("pairs", .ref pa), ("mug", .ref m), ("script", .ref sa)]) :: N) _ :=
    (show St B f1 ((m, IsLst [.int 0 t0, .ref b]) :: (pa, IsLst []) :: (L, HasVars [("pairs", .ref pa), ("mug", .ref m), ("script", .ref sa)]) :: N) _ by walk_at "arr").imp fun o ho => ⟨0, t0, Int.le_refl _, ho.w⟩
  clear H3 H4
  refine gulp_ok X (R.le (by lia)) H5 hsc (by lia) ?_
  intro i ti s3 hi0 hik H6
  obtain ⟨n, rfl⟩ := Int.eq_ofNat_of_zero_le hi0
  walk_at "R"
  refine W_iter_range (by walk_at "pull") R.hh (by lia) ?_
  intro it s7 I7 H7
  refine W_loopG I7 (fun j f' N' => ∃ xs pus, All2 (IsPairP f') xs pus ∧ xs.length = j ∧ (∀ x ∈ xs, OkNm x.1 ∧ OkPlan 2 x.2) ∧ N' = (pa, IsLst pus) :: (m, IsMug b) :: (L, HasVars [("pairs", .ref pa), ("mug", .ref m), ("script", .ref sa)]) :: N) (by walk_at "arr") (Le.refl _) ⟨[], [], .nil, rfl, (fun _ h => nomatch h), rfl⟩ ?_ ?_
  · rintro Q1 j f' N' s8 v hn hj hl ⟨xs, pus, g1, g2, g3, rfl⟩ ⟨tv, rfl⟩ H8
    have hsc' := hsc.mono hl
    walk_at "R"
    refine tag_ok X (R.le (by lia)) (by walk_at "pull") hsc' ?_
    intro nm nv s9 hnm hnv H9
    walk_at "R"
    refine plan_ok X 2 (R.le (by lia)) (by walk_at "pull") hsc' ?_
    intro p pv f3 s10 le3 hp hpv H10
    walk_at "R"
    rename_i tp _ H11
    refine W_append (vs := pus) (by walk_at "pull") (by have := g1.length; lia) fun s12 H12 => ?_
    walk_at "R"
    obtain ⟨f5, le5, H13, k13⟩ := (show St B f3 ((tp, IsTupO [nv, pv]) :: (pa, IsLst (pus ++ [.ref tp])) :: (it, ItRange n (j + 1)) :: (m, IsMug b) :: (L, HasVars [("pairs", .ref pa), ("mug", .ref m), ("script", .ref sa)]) :: N) _ from St.arrv L H12 (by walk_at "ext") (by walk_at "sel") (by walk_at "amp")).freeze
    refine ⟨f5, _, hl.trans (le3.trans le5), ⟨xs ++ [(nm, p)], _, (g1.imp fun _ _ _ h => h.mono (le3.trans le5)).snoc ⟨tp, nv, pv, rfl, k13, hnv, hpv.mono le5⟩, by rw [List.length_append, g2]; rfl, fun x hx => ?_, rfl⟩, by walk_at "arr"⟩
    rcases List.mem_append.mp hx with z | z
    · exact g3 x z
    · rw [List.mem_singleton] at z; subst z; exact ⟨hnm, hp⟩
  · rintro f' N' s8 hl ⟨xs, pus, g1, g2, g3, rfl⟩ H8
    obtain ⟨f3, le3, H9, k9⟩ := H8.freeze
    try dsimp only
    exact hrest R ⟨by lia, g3⟩ (g1.imp fun _ _ _ h => h.mono le3) k9 (St.arrv L H9 (by walk_at "ext") (by walk_at "sel") (by walk_at "amp")) fun f4 s11 le4 H11 => h f4 _ (le1.trans (hl.trans (le3.trans le4))) (by walk_at "arr")
end
section
variable {prog : Program} {w : World} {P : Params} {B : Shared} {f : Heap} {N : Led} {s : Shared} {A : Around} {env : Env}
theorem loops_ok (X : Base (K0 P) B) {L pa : Addr} {xs : List (Nm × Plan)} {pus : List Value} (R : Room (A.deeper (callEnv F702 L 702)) 19) (ho : OkArgs xs) (hx : All2 (IsPairP f) xs pus) (hpa : At f pa (IsLst pus)) (H : St B f ((L, HasVars [("pairs", .ref pa)]) :: N) s) {Q : Flow → Shared → Prop}
    (h : ∀ f' s', Le f f' → St B f' ((L, HasVars [("pairs", .ref pa)]) :: N) s' → Q .next s') : Wp prog w (A.deeper (callEnv F702 L 702)) (exec (nthSt (fBody (st 107)) 3) (callEnv F702 L 702)) Q s := by
  conv in nthSt _ _ => whnf
  walk_at "R"
  rename_i la _ H1
  obtain ⟨f1, le1, H2, k2⟩ := (show St B f ((la, IsLst [.bool false, .bool true]) :: (L, HasVars [("pairs", .ref pa)]) :: N) _ by walk_at "arr").freeze
  replace k2 : At f1 la (IsLst [.bool false, .bool true]) := k2
  refine W_iter_list H2 R.hh (k2.imp fun _ => IsLst.w) ?_
  intro it s3 I3 H3
  refine W_loopG I3 (fun j f' N' => N' = (L, HasVars [("pairs", .ref pa)]) :: N) H3 (Le.refl _) rfl ?_ ?_
  · rintro Q1 i f' N' s4 v hn hi hl rfl hv H4
    obtain ⟨op, rfl⟩ : ∃ op, v = .bool op := by
      simp at hv
      have hm := List.mem_of_getElem? hv
      simp only [List.mem_cons, List.not_mem_nil, or_false] at hm
      exact hm.elim (fun e => ⟨_, e⟩) fun e => ⟨_, e⟩
    walk_at "R"
    rename_i lb _ H5
    obtain ⟨f2, le2, H6, k6⟩ := (show St B f' ((lb, IsLst [.bool true, .bool false]) :: (it, ItList la (i + 1)) :: (L, HasVars [("opened_so", .bool op), ("pairs", .ref pa)]) :: N) _ by walk_at "arr").freeze
    replace k6 : At f2 lb (IsLst [.bool true, .bool false]) := k6
    refine W_iter_list H6 R.hh (k6.imp fun _ => IsLst.w) ?_
    intro it2 s7 I7 H7
    refine W_loopG I7 (fun j f' N' => N' = (it, ItList la (i + 1)) :: (L, HasVars [("opened_so", .bool op), ("pairs", .ref pa)]) :: N) H7 (Le.refl _) rfl ?_ ?_
    · rintro Q1 j f3 N' s8 v hn hj hl3 rfl hv3 H8
      obtain ⟨un, rfl⟩ : ∃ op, v = .bool op := by
        simp at hv3
        have hm := List.mem_of_getElem? hv3
        simp only [List.mem_cons, List.not_mem_nil, or_false] at hm
        exact hm.elim (fun e => ⟨_, e⟩) fun e => ⟨_, e⟩
      clear H H1 H2 H3 H4 H5 H6 H7
      have hle : Le f f3 := le1.trans (hl.trans (le2.trans hl3))
      walk_at "R"
      refine W_Assign_ListComp (cl := []) (by kernel_rfl) (by kernel_rfl) ?_
      walk_at "R"
      refine W_iter_list (by assumption) R.hh ((hpa.mono hle).imp fun _ => IsLst.w) ?_
      intro it3 s9 I9 H9
      refine W_compAG (by kernel_rfl) I9 (fun j' f' N' us => All2 (IsArg prog w f') (xs.take j') us ∧ N' = (L, HasVars [("wished", .bool un), ("opened_so", .bool op), ("pairs", .ref pa)]) :: (it2, ItList lb (j + 1)) :: (it, ItList la (i + 1)) :: N) (by walk_at "arr") (Le.refl _) ⟨.nil, rfl⟩ ?_ (by kernel_rfl) ?_
      · rintro Q1 C acc j' f4 N' us l s10 v hn hj4 hl4 ⟨g1, rfl⟩ hv4 H10
        obtain ⟨x, hx1, t, nv, pv, rfl, a1, a2, a3⟩ := hx.get (i := j') (by simpa using hv4)
        have hl44 := hle.trans hl4
        refine W_unpackT (by assumption) R.hh (St.at (by assumption) (a1.mono hl44)) rfl rfl fun s11 H11 => ?_
        refine Ao_cons ?_
        walk_at "R"
        refine Ao_cons ?_
        walk_at "R"
        refine Ao_nil ?_
        walk_at "R"
        refine value_ok X 2 (R.le (by lia)) (by assumption) (a3.mono hl44) (ho.2 x (List.mem_of_getElem? hx1)).2 fun v2 f5 s12 le5 hv2 H12 => ?_
        walk_at "R"
        rename_i tp _ H13
        obtain ⟨f6, le6, H14, k14⟩ := H13.freeze
        refine ⟨f6, _, _, hl4.trans (le5.trans le6), ⟨?_, rfl⟩, by have := g1.length; rw [List.length_take] at this; have := ho.1; lia, by walk_at "arr"⟩
        rw [List.take_succ, hx1]
        exact All2.snoc (g1.imp fun _ _ _ h => h.mono (le5.trans le6)) ⟨tp, nv, v2, rfl, k14, a2, hv2.mono le6⟩
      · rintro acc f4 N' us s10 hl4 ⟨g1, rfl⟩ H10
        rw [List.take_of_length_le (by rw [hx.length]; simp)] at g1
        refine ⟨_, _, Sel.cons (by walk_at "ext") Sel.refl, ?_⟩
        intro s11 H11
        obtain ⟨f5, le5, H12, k12⟩ := (show St B f4 ((acc, IsLst us) :: (L, HasVars [("args", .ref acc), ("wished", .bool un), ("opened_so", .bool op), ("pairs", .ref pa)]) :: (it2, ItList lb (j + 1)) :: (it, ItList la (i + 1)) :: N) s11 by walk_at "arr").freeze
        replace k12 : At f5 acc (IsLst us) := k12
        have hl55 := hle.trans (hl4.trans le5)
        clear H8 H9 H10 H11
        walk_at "R"
        refine Wp.mono (Q := fun v s' => ∃ f6, Le f5 f6 ∧ ((pt op xs = [] ∧ HasKind w f6 v .nu) ∨ (pt op xs ≠ [] ∧ IsRes prog w f6 v (kdOf (pt op xs)) (total (pt op xs)) (rits (kdOf (pt op xs)) (pt op xs)) (resNames op un xs))) ∧ St B f6 ((L, HasVars [("args", .ref acc), ("wished", .bool un), ("opened_so", .bool op), ("pairs", .ref pa)]) :: (it2, ItList lb (j + 1)) :: (it, ItList la (i + 1)) :: N) s')
          (combined_ok X (R.le (by lia)) op un (by assumption) k12 (g1.imp fun _ _ _ h => h.mono le5) ho (fun h0 v f6 s' le hv H => ⟨f6, le, .inl ⟨h0, hv.kind⟩, H⟩) (fun h1 v f6 s' le hv H => ⟨f6, le, .inr ⟨h1, hv⟩, H⟩)) ?_
        rintro v s12 ⟨f6, le6, ht, H13⟩
        clear H12
        walk_at "R"
        refine due_ok X (R.le (by lia)) op un (by assumption) (hpa.mono (hl55.trans le6)) (hx.imp fun _ _ _ h => h.mono (hl55.trans le6)) ho (agree op xs ho) ht fun f7 s13 le7 H14 => ?_
        clear H13
        walk_at "R"
        exact ⟨f7, _, hl3.trans (hl4.trans (le5.trans (le6.trans le7))), rfl, St.arrv L (by assumption) (by walk_at "ext") (by walk_at "sel") (by walk_at "amp")⟩
    · rintro f3 N' s8 hl3 rfl H8
      walk_at "R"
      exact ⟨f3, _, hl.trans (le2.trans hl3), rfl, St.arrv L H8 (by walk_at "ext") (by walk_at "sel") (by walk_at "amp")⟩
  · rintro f' N' s4 hl rfl H4
    exact h f' _ (le1.trans hl) H4
end
section
variable {prog : Program} {w : World} {P : Params} {B : Shared} {f : Heap} {N : Led} {s : Shared} {A : Around} {env : Env}
theorem heads_ok (X : Base (K0 P) B) {L pa : Addr} {xs : List (Nm × Plan)} {pus : List Value} (R : Room (A.deeper (callEnv F702 L 702)) 19) (ho : OkArgs xs) (hx : All2 (IsPairP f) xs pus) (hpa : At f pa (IsLst pus)) (H : St B f ((L, HasVars [("pairs", .ref pa)]) :: N) s) {Q : Flow → Shared → Prop}
    (h : ∀ f' ha us s', Le f f' → At f' ha (IsLst us) → All2 IsNm (xs.map (·.1)) us → St B f' ((L, HasVars [("heads", .ref ha), ("pairs", .ref pa)]) :: N) s' → Q .next s') : Wp prog w (A.deeper (callEnv F702 L 702)) (exec (nthSt (fBody (st 107)) 4) (callEnv F702 L 702)) Q s := by
  conv in nthSt _ _ => whnf
  refine W_Assign_ListComp (cl := []) (by kernel_rfl) (by kernel_rfl) ?_
  walk_at "R"
  refine W_iter_list (by assumption) R.hh (hpa.imp fun _ => IsLst.w) ?_
  intro it3 s9 I9 H9
  refine W_compAG (by kernel_rfl) I9 (fun j' f' N' us => f = f' ∧ All2 IsNm ((xs.take j').map (·.1)) us ∧ N' = (L, HasVars [("pairs", .ref pa)]) :: N) (by walk_at "arr") (Le.refl _) ⟨rfl, .nil, rfl⟩ ?_ (by kernel_rfl) ?_
  · rintro Q1 C acc j' f4 N' us l s10 v hn hj4 hl4 ⟨rfl, g1, rfl⟩ hv4 H10
    obtain ⟨x, hx1, t, nv, pv, rfl, a1, a2, a3⟩ := hx.get (i := j') (by simpa using hv4)
    refine W_unpackT (by assumption) R.hh (St.at (by assumption) a1) rfl rfl fun s11 H11 => ?_
    refine Ao_cons ?_
    walk_at "R"
    refine Ao_cons ?_
    walk_at "R"
    refine Ao_nil ?_
    walk_at "R"
    refine ⟨f, _, _, Le.refl _, ⟨rfl, ?_, rfl⟩, by have := g1.length; rw [List.length_map, List.length_take] at this; have := ho.1; lia, by walk_at "arr"⟩
    rw [List.take_succ, hx1, List.map_append]
    exact g1.snoc a2
  · rintro acc f4 N' us s10 hl4 ⟨rfl, g1, rfl⟩ H10
    rw [List.take_of_length_le (by rw [hx.length]; simp)] at g1
    refine ⟨_, _, Sel.cons (by walk_at "ext") Sel.refl, ?_⟩
    intro s11 H11
    obtain ⟨f5, le5, H12, k12⟩ := (show St B f ((acc, IsLst us) :: (L, HasVars [("heads", .ref acc), ("pairs", .ref pa)]) :: N) s11 by walk_at "arr").freeze
    exact h f5 acc us _ le5 k12 g1 H12
noncomputable def kk (b : Bool) : Kd := if b then .pl else .ls
theorem lists_ok (X : Base (K0 P) B) {L pa ha : Addr} {xs : List (Nm × Plan)} {pus hus : List Value} (R : Room (A.deeper (callEnv F702 L 702)) 19) (ho : OkArgs xs) (hx : All2 (IsPairP f) xs pus) (hpa : At f pa (IsLst pus)) (hha : At f ha (IsLst hus)) (hhus : All2 IsNm (xs.map (·.1)) hus) (H : St B f ((L, HasVars [("heads", .ref ha), ("pairs", .ref pa)]) :: N) s) {Q : Flow → Shared → Prop}
    (h : ∀ f' s', Le f f' → St B f' ((L, HasVars [("pairs", .ref pa)]) :: N) s' → Q .next s') : Wp prog w (A.deeper (callEnv F702 L 702)) (exec (nthSt (fBody (st 107)) 5) (callEnv F702 L 702)) Q s := by
  conv in nthSt _ _ => whnf
  walk_at "R"
  rename_i tl _ _ tp _ _ la _ H1
  obtain ⟨f1, le1, H2, k2⟩ := (show St B f ((la, IsLst [.str (kk false).s tl, .str (kk true).s tp]) :: (L, HasVars [("heads", .ref ha), ("pairs", .ref pa)]) :: N) _ by walk_at "arr").freeze
  replace k2 : At f1 la (IsLst [.str (kk false).s tl, .str (kk true).s tp]) := k2
  refine W_iter_list H2 R.hh (k2.imp fun _ => IsLst.w) ?_
  intro it s3 I3 H3
  refine W_loopG I3 (fun j f' N' => N' = (L, HasVars [("heads", .ref ha), ("pairs", .ref pa)]) :: N) H3 (Le.refl _) rfl ?_ ?_
  · rintro Q1 i f' N' s4 v hn hi hl rfl hv H4
    obtain ⟨b, tk, rfl⟩ : ∃ b tk, v = .str (kk b).s tk := by
      simp at hv
      have hm := List.mem_of_getElem? hv
      simp only [List.mem_cons, List.not_mem_nil, or_false] at hm
      exact hm.elim (fun e => ⟨false, _, e⟩) fun e => ⟨true, _, e⟩
    clear H H1 H2 H3
    have hle : Le f f' := le1.trans hl
    walk_at "R"
    refine W_ListComp (cl := []) (by kernel_rfl) (by kernel_rfl) ?_
    walk_at "R"
    refine W_iter_list (by assumption) R.hh ((hpa.mono hle).imp fun _ => IsLst.w) ?_
    intro it3 s9 I9 H9
    refine W_compG (by kernel_rfl) I9 (fun j' f4 N' us => All2 (fun y v => IsVal prog w f4 2 y.2 v) (xs.take j') us ∧ N' = (L, HasVars [("kind", .str (kk b).s tk), ("heads", .ref ha), ("pairs", .ref pa)]) :: (it, ItList la (i + 1)) :: N) (by walk_at "arr") (Le.refl _) ⟨.nil, rfl⟩ ?_ ?_
    · rintro Q1 C acc j' f4 N' us l s10 v hn hj4 hl4 ⟨g1, rfl⟩ hv4 H10
      obtain ⟨x, hx1, t, nv, pv, rfl, a1, a2, a3⟩ := hx.get (i := j') (by simpa using hv4)
      have hl44 := hle.trans hl4
      refine W_unpackT (by assumption) R.hh (St.at (by assumption) (a1.mono hl44)) rfl rfl fun s11 H11 => ?_
      refine Ao_cons ?_
      walk_at "R"
      refine Ao_cons ?_
      walk_at "R"
      refine Ao_nil ?_
      walk_at "R"
      refine value_ok X 2 (R.le (by lia)) (by assumption) (a3.mono hl44) (ho.2 x (List.mem_of_getElem? hx1)).2 fun v2 f5 s12 le5 hv2 H12 => ?_
      refine hn _ _ ⟨f5, _, _, hl4.trans le5, ⟨?_, rfl⟩, by have := g1.length; rw [List.length_take] at this; have := ho.1; lia, by walk_at "arr"⟩
      rw [List.take_succ, hx1]
      exact All2.snoc (g1.imp fun _ _ _ h => h.mono le5) hv2
    · rintro acc f4 N' us s10 hl4 ⟨g1, rfl⟩ H10
      rw [List.take_of_length_le (by rw [hx.length]; simp)] at g1
      obtain ⟨f5, le5, H12, k12⟩ := H10.freeze
      replace k12 : At f5 acc (IsLst us) := k12
      clear H9 H10 H4
      have hl55 := hle.trans (hl4.trans le5)
      walk_at "R"
      refine mk_Vector X (R.le (by lia)) (by assumption) fun x dx s13 H13 => ?_
      clear H12
      walk_at "R"
      refine W_dict1 X (by assumption) fun d s14 hd2 H14 => ?_
      clear H13
      walk_at "R"
      have hhl : hus.length ≤ 4 := by have := hhus.length; rw [List.length_map] at this; have := ho.1; lia
      refine W_listof (by assumption) (by walk_at "mem") (St.at (by assumption) (hha.mono hl55)) (by lia) fun hb s15 H15 => ?_
      obtain ⟨f6, le6, H16, k16⟩ := H15.freeze
      clear H15 H14
      walk_at "R"
      refine char_ok X (R.le (by lia)) (by assumption) k16 (by lia) fun c dc cb t s3 H17 => ?_
      obtain ⟨f7, le7, H18, k1, k2, k3⟩ := H17.frz3
      clear H16 H17
      walk_at "R"
      refine ⟨f7, _, H18, fun s5 H5 => ?_⟩
      clear H18
      have hok1 : At f7 cb (IsLst hus) := k3
      have hc1 : IsVec w f7 c .ch (.ref cb) .none := ⟨dc, t, false, false, k1, k2⟩
      walk_at "R"
      rename_i H19
      obtain ⟨f8, le8, H20, m1, m2, m3⟩ := (show St B f7 ((d, AttrD prog w (.ref c)) :: (x, IsInst 321 dx) :: (dx, DictIs w.params [("kind", .str (kk b).s tk), ("items", .ref acc), ("attrs", .ref d), ("shared", .bool false), ("loose", .bool false)]) :: (L, HasVars [("v", .ref x), ("kind", .str (kk b).s tk), ("heads", .ref ha), ("pairs", .ref pa)]) :: (it, ItList la (i + 1)) :: N) _ by walk_at "arr").frz3
      have hatt : IsAttrs prog w f8 (some (xs.map (·.1))) (.ref d) := ⟨d, c, .ref cb, .none, rfl, hd2, m1, hc1.mono le8, cb, hus, rfl, hok1.mono le8, hhus⟩
      have hvec : IsVec w f8 x (kk b) (.ref acc) (.ref d) := ⟨dx, tk, false, false, m2, m3⟩
      have l58 : Le f5 f8 := le6.trans (le7.trans le8)
      have hkk : (kk b).isLP = true := by cases b <;> rfl
      clear H19 H5
      refine Wp.mono (Q := fun v s' => ∃ f9, Le f8 f9 ∧ ((pt true xs = [] ∧ HasKind w f9 v .nu) ∨ (pt true xs ≠ [] ∧ IsRes prog w f9 v (kdOf (pt true xs)) (total (pt true xs)) (rits (kdOf (pt true xs)) (pt true xs)) (resNames true true xs))) ∧ St B f9 ((L, HasVars [("v", .ref x), ("kind", .str (kk b).s tk), ("heads", .ref ha), ("pairs", .ref pa)]) :: (it, ItList la (i + 1)) :: N) s')
        (unl_ok X (R.le (by lia)) (by assumption) hvec (k12.mono l58) (g1.imp fun _ _ _ h => h.mono (le5.trans l58)) hatt ho hkk (fun h0 v f6 s' le hv H => ⟨f6, le, .inl ⟨h0, hv.kind⟩, H⟩) (fun h1 v f6 s' le hv H => ⟨f6, le, .inr ⟨h1, hv⟩, H⟩)) ?_
      rintro v s12 ⟨f9, le9, ht, H21⟩
      clear H20
      have hl99 := hl55.trans (l58.trans le9)
      walk_at "R"
      refine due_ok X (R.le (by lia)) true true (by assumption) (hpa.mono hl99) (hx.imp fun _ _ _ h => h.mono hl99) ho (agree true xs ho) ht fun f10 s13 le10 H22 => ?_
      clear H21
      walk_at "R"
      exact ⟨f10, _, hl.trans (hl4.trans (le5.trans (l58.trans (le9.trans le10)))), rfl, St.arrv L (by assumption) (by walk_at "ext") (by walk_at "sel") (by walk_at "amp")⟩
  · rintro f' N' s4 hl rfl H4
    exact h f' _ (le1.trans hl) (St.arrv L H4 (by walk_at "ext") (by walk_at "sel") (by walk_at "amp"))
end
section
variable {prog : Program} {w : World} {P : Params} {B : Shared} {f : Heap} {N : Led} {s : Shared} {A : Around} {env : Env}
theorem IsVal.ref {n : Nat} {p : Plan} {v : Value} (h : IsVal prog w f n p v) : ∃ r, v = .ref r := by
  obtain ⟨x, dx, C, kvs, t, rfl, _⟩ := h.kind
  exact ⟨x, rfl⟩
theorem vals_eq {xs : List (Nm × Plan)} {us : List Value} (h : All2 (fun y v => IsVal prog w f 2 y.2 v) xs us) : All2 ItEq us us := by
  induction h with
  | nil => exact .nil
  | cons h _ ih =>
    obtain ⟨r, rfl⟩ := h.ref
    exact .cons (.inr (.inr (.inr ⟨r, rfl, rfl⟩))) ih
theorem rest_ok (X : Base (K0 P) B) : RestP prog w B := by
  intro A f N s L pa xs pus Q R ho hx hpa H h
  conv in List.drop _ _ => whnf
  refine W_cons ?_
  refine loops_ok X R ho hx hpa H fun f1 s1 le1 H1 => ?_
  try dsimp only
  refine W_cons ?_
  refine heads_ok X R ho (hx.imp fun _ _ _ h => h.mono le1) (hpa.mono le1) H1 fun f2 ha hus s2 le2 hha hhus H2 => ?_
  try dsimp only
  refine W_cons ?_
  refine lists_ok X R ho (hx.imp fun _ _ _ h => h.mono (le1.trans le2)) (hpa.mono (le1.trans le2)) hha hhus H2 fun f3 s3 le3 H3 => ?_
  try dsimp only
  have hle : Le f f3 := le1.trans (le2.trans le3)
  clear H H1 H2
  walk_at "R"
  refine W_ListComp (cl := []) (by kernel_rfl) (by kernel_rfl) ?_
  walk_at "R"
  refine W_iter_list (by assumption) R.hh ((hpa.mono hle).imp fun _ => IsLst.w) ?_
  intro it3 s9 I9 H9
  refine W_compG (by kernel_rfl) I9 (fun j' f4 N' us => All2 (fun y v => IsVal prog w f4 2 y.2 v) (xs.take j') us ∧ N' = (L, HasVars [("pairs", .ref pa)]) :: N) (by walk_at "arr") (Le.refl _) ⟨.nil, rfl⟩ ?_ ?_
  · rintro Q1 C acc j' f4 N' us l s10 v hn hj4 hl4 ⟨g1, rfl⟩ hv4 H10
    obtain ⟨x, hx1, t, nv, pv, rfl, a1, a2, a3⟩ := hx.get (i := j') (by simpa using hv4)
    have hl44 := hle.trans hl4
    refine W_unpackT (by assumption) R.hh (St.at (by assumption) (a1.mono hl44)) rfl rfl fun s11 H11 => ?_
    refine Ao_cons ?_
    walk_at "R"
    refine Ao_cons ?_
    walk_at "R"
    refine Ao_nil ?_
    walk_at "R"
    refine value_ok X 2 (R.le (by lia)) (by assumption) (a3.mono hl44) (ho.2 x (List.mem_of_getElem? hx1)).2 fun v2 f5 s12 le5 hv2 H12 => ?_
    refine hn _ _ ⟨f5, _, _, hl4.trans le5, ⟨?_, rfl⟩, by have := g1.length; rw [List.length_take] at this; have := ho.1; lia, by walk_at "arr"⟩
    rw [List.take_succ, hx1]
    exact All2.snoc (g1.imp fun _ _ _ h => h.mono le5) hv2
  · rintro acc f4 N' us s10 hl4 ⟨g1, rfl⟩ H10
    rw [List.take_of_length_le (by rw [hx.length]; simp)] at g1
    clear H9
    walk_at "R"
    refine mk_Vector X (R.le (by lia)) (by assumption) fun x dx s13 H13 => ?_
    clear H10
    walk_at "R"
    rename_i tk _ _ _ H14
    obtain ⟨f5, le5, H15, m1, m2, m3⟩ := (show St B f4 ((x, IsInst 321 dx) :: (dx, DictIs w.params [("kind", .str Kd.ex.s tk), ("items", .ref acc), ("attrs", .none), ("shared", .bool false), ("loose", .bool false)]) :: (acc, IsLst us) :: (L, HasVars [("other", .ref x), ("pairs", .ref pa)]) :: N) _ by walk_at "arr").frz3
    have hvec : IsVec w f5 x .ex (.ref acc) .none := ⟨dx, tk, false, false, m1, m2⟩
    have hl55 := hle.trans (hl4.trans le5)
    clear H14 H13 H3
    refine unl_same X (R.le (by lia)) H15 hvec.kind rfl fun s16 H16 => ?_
    clear H15
    walk_at "R"
    rw [if_neg (show ¬ ((Kd.ex.s != Str.ofString "expression") = true) by decide +kernel)]
    walk_at "R"
    have hu64 : (A.deeper (callEnv F702 L 702)).units < cLine := by have := R.u; lia
    refine W_neLL (St.at (by assumption) m3) (St.at (by assumption) m3) hu64 (vals_eq g1) ?_
    clear H16
    walk_at "R"
    rename_i t1 _ _ tl _ H17
    obtain ⟨f6, le6, H18, k18⟩ := H17.freeze
    clear H17
    refine char_ok X (R.le (by lia)) H18 k18 (by simp) fun c dc cb t s19 H19 => ?_
    obtain ⟨f7, le7, H20, n1, n2, n3⟩ := H19.frz3
    clear H19 H18
    have hc : IsVec w f7 c .ch (.ref cb) .none := ⟨dc, t, false, false, n1, n2⟩
    walk_at "R"
    refine unl_same X (R.le (by lia)) (by assumption) hc.kind rfl fun s21 H21 => ?_
    clear H20
    walk_at "R"
    refine W_eqLL (St.at (by assumption) n3) (St.mem (by assumption) (by walk_at "mem")) hu64 (All2.cons (.inr (.inr (.inl ⟨_, _, _, rfl, rfl⟩))) .nil) ?_
    walk_at "R"
    refine null_ok X (R.le (by lia)) (by assumption) fun z f8 s22 le8 hz H22 => ?_
    clear H21
    walk_at "R"
    refine unl_same X (R.le (by lia)) (by assumption) (hz 0).kind rfl fun s23 H23 => ?_
    clear H22
    walk_at "R"
    refine W_kind X (by assumption) (hz 0).kind fun t9 s24 H24 => ?_
    walk_at "R"
    rw [show (Plan.nothing.kd.s == Str.ofString "NULL") = true by decide +kernel]
    exact h f8 _ (hl55.trans (le6.trans (le7.trans le8))) (by walk_at "arr")
theorem law_ok (X : Base (K0 P) B) (hA : Room A 20) {sa : Addr} {vs : List Value} (H : St B f N s) (hs : At f sa (LstW vs.toArray)) (hv : vs.length ≤ 63 ∧ ∀ v ∈ vs, ∃ i t, v = .int i t) {Q : Value → Shared → Prop}
    (h : ∀ f' s', Le f f' → St B f' N s' → Q (.bool true) s') : Wp prog w A (call (.ref 702) [.ref sa]) Q s := law_of X (rest_ok X) hA H hs hv h
end
theorem base_of {w : World} {s₀ s₁ : Shared} {mg mb : Str → Option Value} {R : WRecords} (G : Ground vw loose0 R (fun _ _ => True) w s₀ mg mb s₁.heap) (Y : s₀.heap = H1 w.params) (hk : ∀ b o, s₀.heap.get? b = some o → s₁.heap.get? b = some o) : Base (K0 w.params) s₁ := by
  have X : (K0 w.params).In s₁.heap := (Y ▸ K0_in w.params : (K0 w.params).In s₀.heap).keeps hk
  have T := G.T
  exact ⟨X, ⟨mg, T.g, fun n v e => mg_of X T.g e⟩, ⟨mg, mb, T.g, T.b, fun n v e hb hn => ⟨ns_none_of X T.g e, by rw [T.builtins n hn]; exact hb⟩⟩, T.nolimit⟩
theorem ints_all {vs : List Value} {ns : List Int} (h : IntsAre vs ns) : ∀ v ∈ vs, ∃ i t, v = .int i t := by
  induction h with
  | nil => intro v hv; cases hv
  | cons n t _ ih =>
    intro v hv
    rcases List.mem_cons.mp hv with rfl | hv
    · exact ⟨_, _, rfl⟩
    · exact ih v hv
theorem roomTop : Room callerA 20 := ⟨rfl, by decide +kernel, by decide +kernel⟩
theorem walkTop : WalkX vw loose0 (fun _ _ => True) (fun s => s.heap) (fun w => H1 w.params) rw0.row.toRowW d0 [] fun f vs => PySem.call f vs := by
  intro w s₀ s₁ mg mb G Y fa o pm cd doc dV kV ho hd hcd hD hmg hg args vals as L hpre hlay hrd hwl hlo
  have B0 := base_of G Y L.keeps
  have hfa : fa = 702 := by
    have h2 := mg_of B0.kin G.T.g (nm_law w.params)
    rw [show d0.name = Str.ofString "law" from rfl] at hmg
    rw [hmg] at h2
    injection h2 with h2
    injection h2
  subst hfa
  wrow_args hpre hlay hrd hwl hlo
  rename_i ns _ _ _ _ _ _ _ sa vs _ hL _ _ _ hI _ hc _
  have hlen : ns.length ≤ 63 := by lia
  have hvl := hI.length
  have S0 : St s₁ s₁.heap [] s₁ := ⟨⟨_, _, rfl⟩, fun _ _ e => e, fun _ _ e => e, fun _ h => (nomatch h), List.nodup_nil⟩
  obtain ⟨oL, hoL, hcL, hdL⟩ := hL
  refine wpAny_mono (law_ok (N := []) (Q := fun v s' => v = .bool true ∧ (∀ b o, s₁.heap.get? b = some o → s'.heap.get? b = some o) ∧ s'.os = s₁.os ∧ s'.gens = s₁.gens) B0 roomTop S0 ⟨oL, hoL, hcL, hdL⟩ ⟨by lia, ints_all hI⟩ fun f' s' hl H => ⟨rfl, fun b o e => H.sub _ _ (hl _ _ e), ?_, ?_⟩).run (fun v s' z => ?_) fun _ _ x => x.elim
  · obtain ⟨h', t', rfl⟩ := H.sh; rfl
  · obtain ⟨h', t', rfl⟩ := H.sh; rfl
  obtain ⟨rfl, z1, z2, z3⟩ := z
  exact GoodW.toG ⟨.inl ⟨_, _, _, rfl, raisesW_false (by intro ct h; cases h), ReadsW.bool true, postW_of rfl (by wtm_val) (by w_fin), unshared_nil⟩, z1, z2, z3.trans hg⟩
theorem holds : PySem.Challenge.rw_pq1408_01.Holds := head walkTop
end Mine
theorem PySem.Challenge.cw_pq1408_01_holds : PySem.Challenge.rw_pq1408_01.Holds :=
  Mine.holds
