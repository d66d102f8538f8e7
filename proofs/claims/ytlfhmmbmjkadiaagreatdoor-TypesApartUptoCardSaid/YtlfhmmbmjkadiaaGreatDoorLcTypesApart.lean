/- What the law TypesApart reaches. -/
import Derived.Test.YtlfhmmbmjkadiaaGreatDoorProg
import Derived.KernelRfl
import GoSem.ClaimFn
set_option linter.all false
namespace Go.Proofs.YtlfhmmbmjkadiaaGreatDoor.typesApart
open Go
set_option maxRecDepth 100000
def cl : List FuncId := [5, 16, 51, 82, 115, 159, 202, 250, 160, 203, 161, 162, 116, 163, 204, 205, 165, 164, 166, 206, 251, 281, 299, 300, 252, 282, 301, 283, 284, 103, 139, 189, 238, 239, 271, 270, 272, 240, 241, 273, 274, 294, 295, 302, 285, 167, 207, 208, 253, 168, 83, 117, 118, 169, 209, 121, 254, 119, 120, 170, 210, 171, 211, 172, 212, 213, 255, 256, 257, 214, 258, 259, 173, 215, 216, 217, 260, 261, 286, 288, 290, 305, 311, 312, 313, 314, 262, 315, 303, 308, 309, 263, 304, 310, 287, 289, 291, 179, 18, 53, 84, 122, 100, 123, 124, 174, 71, 175, 218, 125, 126, 176, 48, 177, 219, 220, 221, 222, 223, 224, 225, 178, 226, 264, 292, 293, 227, 265, 85, 46, 81, 87, 86, 90, 88, 127, 128, 180, 228, 266, 229, 267, 184, 230, 181, 54, 89, 91, 231, 232, 182, 233, 268, 234, 235, 269, 183, 236, 27, 63, 92, 96, 19, 17, 52, 20]
theorem closureE : Tryz.prog.closure 5 = cl := by kernel_rfl
end Go.Proofs.YtlfhmmbmjkadiaaGreatDoor.typesApart
